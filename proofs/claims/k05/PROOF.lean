import PyProof.Rows.All
import HandS.Property
import HandS.HeadNt
import Wide.All
import OpenK.AllK
import Wide.FinOn
import HandS.ForMost
import KE.GoesEnum
import HandS.ForExc
import HandS.Wide
import HandS.IsInst
import HandS.Style
import HandS.Walk
import HandS.Conv
import HandS.Flow
import HandS.Defaults
import HandS.Star
import HandS.Deep
import PyProof.GenQ
import HandS.GenOver
import HandS.GenYield
import HandS.GenCall
import HandS.GenList
import HandS.FStrTup
import HandS.FStr
import PyProof.ReprNest
import PySem.PyData
import PyProof.P3Statements
import HandS.ExcInit
import HandS.ExcIs
import HandS.ExcField
import KE.SortData
import HandS.SortRule
import HandS.TryOnly
import HandS.Lambda
import HandS.HeadHook4
import HandS.EndTab
import HandS.HeadWalk
import HandS.StrMore
import KE.GoesZip
import KE.GoesMore
import HandS.Replace
import PyProof.StrHeap
import PyProof.FString4
import PyProof.ListStr
import PyProof.StrOps2
import HandS.More
import HandS.Head0
import HandS.Head1
import HandS.Head2
import HandS.HeadEnd
import HandS.HeadHook1
import HandS.HeadHook2
import PySem.Challenge.RW_pressalike_k05_columns_widths_and_stamps
set_option Elab.async false
set_option linter.all false
set_option maxRecDepth 100000
set_option maxHeartbeats 2000000
/-! MirH: the head's facts: defs at any address, and any test of the written part. -/
namespace Mr
open PySem PySem.Spec PyProof.Rows L2
abbrev FrT := PySem.W.Frag → Bool
def obsE (fa : List He.Fa) (fn : List He5.DefA) (ex : List FrT) (K : PySem.W.Frag) : He.AlD := (((fa.all fun f => f.ok K) && fn.all fun d => d.ok K) && ex.all fun f => f K, fn.map fun d => He5.fnA K (d.at_ K))
def valE (fn : List He5.DefA) : He.AlD := (true, fn.map He5.DefA.val)
def SaysE (fa : List He.Fa) (fn : List He5.DefA) (ex : List FrT) (K : PySem.W.Frag) : Prop := obsE fa fn ex K = valE fn
def obsEG (n : Nat) (fa : List He.Fa) (fn : List He5.DefA) (ex : List FrT) (g : Addr → Option Obj) : He.AlD := obsE fa fn ex (He.frG g (He.asD g n))
def hookE (n : Nat) (fa : List He.Fa) (fn : List He5.DefA) (ex : List FrT) : PySem.W.Hook where
  α := He.AlD
  obs := fun s => obsEG n fa fn ex s.heap.get?
  val := fun _ => valE fn
  says := fun _ h => ∃ K : PySem.W.Frag, K.In h ∧ SaysE fa fn ex K
  of := fun _ _ e => ⟨_, He.frG_in, e⟩
  keeps := fun _ _ _ ⟨K, hK, c⟩ k => ⟨K, PySem.W.Frag.In.keeps hK k, c⟩
theorem obsEG_eq {n : Nat} {fa : List He.Fa} {fn : List He5.DefA} {ex : List FrT} {g : Addr → Option Obj} {s : Shared} (h : ∀ a, g a = s.heap.get? a) : obsEG n fa fn ex g = (hookE n fa fn ex).obs s := by
  have e : g = s.heap.get? := funext h
  rw [e] <;> rfl
section
variable {fa : List He.Fa} {fn : List He5.DefA} {ex : List FrT} {K : PySem.W.Frag}
theorem SaysE.all (c : SaysE fa fn ex K) : ((fa.all fun f => f.ok K) = true ∧ (fn.all fun d => d.ok K) = true) ∧ (ex.all fun f => f K) = true := by
  have h := He.ba (show (((fa.all fun f => f.ok K) && fn.all fun d => d.ok K) && ex.all fun f => f K) = true from congrArg (fun z : He.AlD => z.1) c)
  exact ⟨He.ba h.1, h.2⟩
theorem SaysE.fact (c : SaysE fa fn ex K) (i : Nat) {f : He.Fa} (h : fa[i]? = some f := by rfl) : f.ok K = true := List.all_eq_true.mp c.all.1.1 f (List.mem_of_getElem? h)
theorem SaysE.test (c : SaysE fa fn ex K) (i : Nat) {f : FrT} (h : ex[i]? = some f := by rfl) : f K = true := List.all_eq_true.mp c.all.2 f (List.mem_of_getElem? h)
theorem SaysE.def_ (c : SaysE fa fn ex K) (i : Nat) {d : He5.DefA} (h : fn[i]? = some d := by rfl) : ∃ fd, L2.FunD K d.name d.qual d.params d.body d.scope (d.dvs K) (d.kws K) (d.at_ K) fd := by
  have e : fn.map (fun d => He5.fnA K (d.at_ K)) = fn.map He5.DefA.val := congrArg (fun z : He.AlD => z.2) c
  have e2 : (fn.map fun d => He5.fnA K (d.at_ K))[i]? = (fn.map He5.DefA.val)[i]? := by rw [e]
  rw [List.getElem?_map, List.getElem?_map, h] at e2
  exact He5.DefA.funD (Option.some.inj e2) (List.all_eq_true.mp c.all.1.2 d (List.mem_of_getElem? h))
end
/-! ### properties -/
abbrev pAd (K : PySem.W.Frag) (C f : Str) : Addr := He.ma K (He.ga K C) f
abbrev gAd (K : PySem.W.Frag) (C f : Str) : Addr := He5.wf K (He.ga K C) "property" f
def propB (C f : Str) : FrT := fun K => He.eqO (PySem.W.findIn K (.ref (He.ga K C)) f) (some (some (.ref (pAd K C f)))) && (He.eqO (PySem.W.specialIn K (.ref (pAd K C f)) "__get__") (some (some (.builtin "property.__get__"))) &&
  (decide (PySem.W.takesIn K (.ref (pAd K C f)) = some true) && (match PySem.W.recIn K (pAd K C f) "property" with
    | some (.ref _ :: _) => true
    | _ => false)))
theorem propB_ok {C f : Str} {K : PySem.W.Frag} (h : propB C f K = true) : PropOf K (He.ga K C) f (pAd K C f) (gAd K C f) := by
  obtain ⟨h1, h⟩ := He.ba h
  obtain ⟨h2, h⟩ := He.ba h
  obtain ⟨h3, h4⟩ := He.ba h
  refine ⟨He.eqO_ok h1, He.eqO_ok h2, of_decide_eq_true h3, ?_⟩
  show ∃ rest, PySem.W.recIn K (pAd K C f) "property" = some (.ref (He5.wf K (He.ga K C) "property" f) :: rest)
  unfold He5.wf
  split at h4
  · rename_i g r e
    exact ⟨r, by rw [e]⟩
  · cases h4
/-! ### len by an own __len__ -/
def spcB (C m : Str) : FrT := fun K => He.eqO (PySem.W.findIn K (.ref (He.ga K C)) m) (some (some (.ref (He.ma K (He.ga K C) m)))) && PySem.W.isFn K (.ref (He.ma K (He.ga K C) m))
structure Spc (K : PySem.W.Frag) (C : Addr) (m : Str) (f : Addr) : Prop where
  at_ : PySem.W.findIn K (.ref C) m = some (some (.ref f))
  fn : PySem.W.isFn K (.ref f) = true
theorem spcB_ok {C m : Str} {K : PySem.W.Frag} (h : spcB C m K = true) : Spc K (He.ga K C) m (He.ma K (He.ga K C) m) := by
  obtain ⟨h1, h2⟩ := He.ba h
  exact ⟨He.eqO_ok h1, h2⟩
def lenQ (Q : VK) : VK := fun v H' => ∃ n : Nat, v = .int n ∧ n < 2 ^ 62 ∧ Q (.int n) H'
def rLenOwn (C : Addr) (sp : Sp) (E : XK) : List V → Hp → VK → Prop := fun xs H Q => ∃ a dx fs, xs = [.ref a] ∧ H a = some (.ins C dx fs) ∧ sp [.ref a] H (lenQ Q) E
theorem cr_lenOwn {X : Cx} {CX : CXT} {k : Nat} {C f : Addr} {fd : FuncData} {ps : List Str} {sp : Sp} {E : XK} (F : FnOk X.prog X.w X.K X.mg X.base CX k f fd ps sp) (hs : Spc X.K C "__len__" f) (hr : Room (k + 1) X.A) (hb : Binds X.K fd ps []) (hx : Passes CX X.nox E) :
    CallR X (.builtin "len") (rLenOwn C sp E) := by
  intro pins s σ H xs us Q I r h
  obtain ⟨a, dx, fs, rfl, ea, h⟩ := h
  obtain ⟨u, rfl, rx⟩ := vals1 r
  obtain rfl : u = Value.ref a := rx
  obtain ⟨mA, O, _, _, _, _⟩ := ins_get I.hok ea
  obtain ⟨od, J, _⟩ := O.look
  have hl : ([Value.ref a] ++ ([] : List Value)).length = ps.length := by
    rw [← F.len _ _ _ _ h]; rfl
  refine PySem.Calls.call_function_entry kind_len plain_len entry_len (args_len1 _) ?_
  unfold Builtin.«len»
  refine wpAny_bind (m := oneArg "len" _) (wpAny_pure ?_)
  refine wpAny_bind (m := callSpecial? (.ref a) (Str.ofString "__len__")) (PySem.W.special_fn I.kIn J hs.at_ (beq_iff_eq.mp hs.fn) ?_)
  refine wpAny_call (codeAny_mono (F.run X.A.in1 X.stack s H ⟨[.ref a], []⟩ [.ref a] [.ref a] _ E hr.in1 I.env0.in1 (hb s [.ref a] I.kIn hl) (.cons rfl .nil) h) fun r s' hq => ?_)
  cases r with
  | error er => exact False.elim (hx pins σ H s er s' (I.wish _) hq)
  | ok fl =>
    cases fl with
    | ret u =>
      obtain ⟨v, H', I3, rv, n, rfl, hn, q3⟩ := I.after hq
      obtain ⟨t, rfl⟩ := rv
      refine wpAny_bind (wpAny_holding (wpAny_pure ?_))
      refine wpAny_bind (wpAny_letGo ?_)
      show wpAny _ _ (if (n : Int) < 0 then _ else _) _ _ _
      rw [if_neg (by omega)]
      show wpAny _ _ (if (n : Int) ≥ 2 ^ 63 then _ else _) _ _ _
      rw [if_neg (by omega)]
      exact wpAny_bind (wpAny_mkInt (wpAny_pure ⟨_, rfl, ⟨.int n, H', I3.tok _, ⟨_, rfl⟩, q3⟩⟩))
    | next => exact False.elim hq
    | brk => exact False.elim hq
    | cont => exact False.elim hq
end Mr

set_option Elab.async false
set_option linter.all false
set_option maxRecDepth 100000
set_option maxHeartbeats 2000000
/-! MirE: enumerate of a tuple, of a list or a tuple. -/
namespace Mr
open PySem PySem.Spec PyProof.Rows L2
theorem meets_enum1 {v : Value} {o : Obj} {H : Heap → Prop} (B : Begins v o H) :
    Meets (Builtin.«enumerate.__new__» ⟨[.type "enumerate", v], []⟩) (fun _ R s => H s.heap ∧
      R (.ok (.ret (.ref (s.heap.push o).objs.size))) { s with heap := (s.heap.push o).push { cls := .type "enumerate", data := .fields #[.none, .bool false, .ref s.heap.objs.size, rawInt 0, .none, .none] } }) :=
  .of_wp fun prog w A R s h => by
    obtain ⟨hp, g, d, tk, os⟩ := s; obtain ⟨h1, h⟩ := h
    have hsub := sub_enumerate
    have q1 : ∀ {A' : Around} {E : Value → Shared → Prop} {Q : Value → Shared → Prop}, Q (.ref hp.objs.size) ⟨hp.push o, g, d, tk, os⟩ → wpAny (model prog w) A' (pyIter v) Q E ⟨hp, g, d, tk, os⟩ :=
      fun q => B.iter prog w _ _ ⟨hp, g, d, tk, os⟩ _ h1 q
    wp_walk using q1
    refine wpAny_stack_any fun st => wpAny_pure ?_
    split
    · rename_i c _ _ _ _ _
      cases (c == Value.type "enumerate")
      · wp_walk using q1
        exact ⟨_, rfl, h⟩
      · wp_walk using q1
        exact ⟨_, rfl, h⟩
    · wp_walk using q1
      exact ⟨_, rfl, h⟩
theorem call_enum1 {prog : Program} {w : World} {A : Around} {E : Value → Shared → Prop} {s : Shared} {v : Value} {o : Obj} {H : Heap → Prop} {Q : Value → Shared → Prop} (B : Begins v o H) (h1 : H s.heap)
    (h : ∀ h', IsEnum h' (s.heap.objs.size + 1) s.heap.objs.size 0 .none → h'.get? s.heap.objs.size = some o → h'.objs.size = s.heap.objs.size + 2 →
      (∀ b o, s.heap.get? b = some o → h'.get? b = some o) → Q (.ref (s.heap.objs.size + 1)) { s with heap := h' }) :
    wpAny (model prog w) A (call (.type "enumerate") [v]) Q E s := by
  refine callType_new F.called_enumerate (by decide) (F.typeCall_enumerate_1 _) (F.newCall_enumerate_1 _) (fun obj => F.args_object_init_2 obj _) F.entry_enumerate_new
    (meets_enum1 B) ⟨h1, ?_⟩
  have hz : (s.heap.push o).objs.size = s.heap.objs.size + 1 := Heap.size_push ..
  show _ ∧ _
  rw [hz]
  have he : IsEnum ((s.heap.push o).push { cls := .type "enumerate", data := .fields #[.none, .bool false, .ref s.heap.objs.size, rawInt 0, .none, .none] }) (s.heap.objs.size + 1) s.heap.objs.size 0 .none := by
    have := Heap.get?_push_size (s.heap.push o) (o := { cls := .type "enumerate", data := .fields #[.none, .bool false, .ref s.heap.objs.size, rawInt 0, .none, .none] }) rfl
    rw [hz] at this; exact this
  refine ⟨⟨_, he, rfl⟩, h _ he (Heap.get?_push_of_some _ (Heap.get?_push_size _ B.free)) (by rw [Heap.size_push, hz]) fun b o x => Heap.get?_push_of_some _ (Heap.get?_push_of_some _ x)⟩
/-- the tuple at a, each item in a new pair -/
def IteT (K : PySem.W.Frag) (a : Addr) : It :=
  ⟨fun i H => ∃ (xs : List V) (x : V), SqT K H a xs ∧ xs[i]? = some x, fun i H v H' => ∃ T x, v = .ref T ∧ H T = none ∧ H' = upd H T (.tup [.int (i : Nat), x]) ∧ ∀ xs, SqT K H a xs → xs[i]? = some x, fun i H => ∃ xs : List V, SqT K H a xs ∧ xs.length = i⟩
theorem turn_enumT {P : Program} {w : World} {K : PySem.W.Frag} {elts : List Expr} {kk : Nat} {tpos : Pos} (a e it : Addr) :
    Turn P w K (.Tuple elts kk tpos) (IteT K a) [e, it] e (fun i h => (∃ old, IsEnum h e it ((i : Nat) : Int) old) ∧ h.IsTupleIter it a i ∧ e ≠ it ∧ a ≠ it ∧ a ≠ e) where
  mem := by simp
  obj := fun i h st b hb => by
    obtain ⟨⟨old, he⟩, ⟨o, ho, hc, hd⟩, _⟩ := st
    have e' : b = e ∨ b = it := by simpa using hb
    rcases e' with z | z
    · rw [z]; exact ⟨_, he, fun v q => nomatch q⟩
    · rw [z]; exact ⟨o, ho, fun v q => by rw [hd] at q; cases q⟩
  keep := fun i h h' st k => let ⟨⟨old, he⟩, hi, hne⟩ := st; ⟨⟨old, k e (by simp) _ he⟩, hi.at fun o q => k it (by simp) o q, hne⟩
  item := by
    intro X hP hw hK hc i pins s σ H E I hf st hg
    subst hP hw hK
    obtain ⟨⟨old, he⟩, hit, hne, hai, hae⟩ := st
    obtain ⟨xs, x, hq, hx⟩ := hg
    obtain ⟨its, rv, p, hz⟩ := I.tuple hq
    have hi : i < its.length := by rw [← rv.length]; exact (List.getElem?_eq_some_iff.mp hx).1
    have hel : e < s.heap.objs.size := Heap.lt_size he
    have hil : it < s.heap.objs.size := by obtain ⟨_, q, _⟩ := hit; exact Heap.lt_size q
    have D : Draws X.prog X.w X.A.in1 it [it, a] its.toArray.size (fun i v => its.toArray[i]? = some v) (fun i h => h.IsTupleIter it a i ∧ h.IsTuple a its.toArray) := Draws.tuple (A := X.A.in1) (show X.A.in1.handled = none from I.ok.hd hc) it a hai its.toArray
    refine wpAny_pyNext_enum_itemC D he ⟨hit, p⟩ (by simpa using hi) hne (fun hm => ?_) fun u h' tk hu ho hst' hT hsz hk => ?_
    · rcases List.mem_cons.mp hm with z | hm
      · exact hne z
      · rcases List.mem_cons.mp hm with z | hm
        · exact hae z.symm
        · cases hm
    obtain ⟨u', hu', ru⟩ := rv.get hx
    have hu2 : its[i]? = some u := by simpa using hu
    rw [hu2] at hu'
    cases hu'
    refine ⟨_, rfl, wpAny_letOwnedTupleGo_enum (s := { s with heap := h', toks := tk + 1 }) ho fun h'' he' sb => ?_⟩
    have hT2 : h''.get? s.heap.objs.size = some { cls := .type "tuple", data := .seq #[.int i tk, u] } := (sb.2 _ (Nat.ne_of_gt hel)).trans hT
    have new : ObjOk X.prog X.w (upd H s.heap.objs.size (.tup [.int (i : Nat), x])) h'' s.heap.objs.size (.tup [.int (i : Nat), x]) :=
      ⟨by show 2 ≤ sizeLine; decide, [.int i tk, u], .cons ⟨_, rfl⟩ (.cons ru .nil), ⟨_, hT2, rfl, _, rfl⟩⟩
    have I1 : Inv X pins σ (upd H s.heap.objs.size (.tup [.int (i : Nat), x])) { s with heap := h'', toks := tk + 1 } :=
      I.turnedNew (ch := [e, it]) (fun b ob hb q => (sb.2 b (fun z => hb (by simp [z]))).trans (hk b ob (fun z => hb (by simp [z])) (fun z => hb (by simp [z])) q)) hf (Nat.le_refl _) new
    refine ⟨.ref s.heap.objs.size, _, I1, rfl, ⟨_, x, rfl, I.hok.fresh (Nat.le_refl _), rfl, fun ys hy => by rw [I.tuple_inj hy hq]; exact hx⟩, ⟨⟨u, ?_⟩, hst'.1.at fun o q => (sb.2 it (Ne.symm hne)).trans q, hne, hai, hae⟩, fun b hb => ?_⟩
    · have e1 : ((i + 1 : Nat) : Int) = (i : Int) + 1 := by omega
      rw [e1]; exact he'
    · have hb' : b < s.heap.objs.size := by
        have e' : b = e ∨ b = it := by simpa using hb
        rcases e' with z | z
        · rw [z]; exact hel
        · rw [z]; exact hil
      rw [upd_ne (Nat.ne_of_lt hb')]
      exact (hf b hb).1
  done := by
    intro X hP hw hK hc i pins s σ H E I hf st hg
    subst hP hw hK
    obtain ⟨⟨old, he⟩, hit, hne, hai, hae⟩ := st
    obtain ⟨xs, hq, hx⟩ := hg
    obtain ⟨its, rv, p, hz⟩ := I.tuple hq
    obtain ⟨f0, f1, f2, f3, f4, f5⟩ := hf it (by simp)
    have hl := rv.length
    have D : Draws X.prog X.w X.A.in1 it [it, a] its.toArray.size (fun i v => its.toArray[i]? = some v) (fun i h => h.IsTupleIter it a i ∧ h.IsTuple a its.toArray) := Draws.tuple (A := X.A.in1) (show X.A.in1.handled = none from I.ok.hd hc) it a hai its.toArray
    have e0 : its.toArray.size = i := by simp; omega
    refine wpAny_pyNext_enum_endD D he (by rw [e0]; exact ⟨hit, p⟩) fun h' eb => ⟨rfl, I.turned (t' := s.toks) (fun b o hb q => eb b o hb q) f0 f1 f3 f4 f5⟩
  self := fun A i s Q E st h => let ⟨⟨_, he⟩, _⟩ := st; wpAny_pyIter_enum he h
def iEnumQ (K : PySem.W.Frag) (ta : TA) : TI := fun σ H R => ta σ H fun vs H1 => ∃ a xs, vs = [.ref a] ∧ ((SqL K H1 a xs ∧ R (Ite K a) H1) ∨ (SqT K H1 a xs ∧ R (IteT K a) H1))
theorem pi_enumQ {X : Cx} {e : Expr} {ta : TA} {p pos tpos : Pos} {elts : List Expr} {kk : Nat} (hg : Gl X "enumerate") (hm : X.mg "enumerate" = none) (ha : PA X [e] ta) (hs : starEach [e] X.env = [(false, eval e X.env)] := by rfl) :
    PI X (.Tuple elts kk tpos) (.Call (.Name "enumerate" p) [e] [] pos) (iEnumQ X.K ta) := by
  refine ⟨fun pins s σ H R I h => ?_⟩
  refine Call_ (ld_blt I hg hm boot_enumerate (PyProof.Rows.callWith_type1 (thn (ha.run pos pins s σ H _ I h) fun us s1 ⟨vs, H1, I1, r1, q1⟩ => ?_) hs rfl))
  obtain ⟨a, xs, ex, hqq⟩ := q1
  subst ex
  cases r1 with
  | cons r rr =>
    cases rr
    cases r
    have fin : ∀ b, b ∈ [s1.heap.objs.size + 1, s1.heap.objs.size] → s1.heap.objs.size ≤ b := fun b hb => by
      have e' : b = s1.heap.objs.size + 1 ∨ b = s1.heap.objs.size := by simpa using hb
      rcases e' with z | z
      · rw [z]; exact Nat.le_add_right _ _
      · rw [z]; exact Nat.le_refl _
    rcases hqq with ⟨hq, q⟩ | ⟨hq, q⟩
    · obtain ⟨its, rv, p', hz⟩ := I1.list hq
      refine call_enumerate_list p'.isList fun h' he hit hsz hk => wpAny_pyIter_enum he ?_
      have I2 : Inv X pins σ H1 { s1 with heap := h' } := I1.kept (t' := s1.toks) hk
      exact ⟨s1.heap.objs.size + 1, [s1.heap.objs.size + 1, s1.heap.objs.size], _, _, H1, rfl, I2, turn_enum a (s1.heap.objs.size + 1) s1.heap.objs.size, ⟨⟨.none, he⟩, hit, Nat.succ_ne_self _⟩, fun b hb => I1.fpOk (fin b hb) (I1.hok.fresh (fin b hb)), q⟩
    · obtain ⟨its, rv, p', hz⟩ := I1.tuple hq
      have hlt : a < s1.heap.objs.size := by obtain ⟨_, q, _⟩ := id p'; exact Heap.lt_size q
      refine call_enum1 (begins_tuple a its.toArray) p' fun h' he hit hsz hk => wpAny_pyIter_enum he ?_
      have I2 : Inv X pins σ H1 { s1 with heap := h' } := I1.kept (t' := s1.toks) hk
      exact ⟨s1.heap.objs.size + 1, [s1.heap.objs.size + 1, s1.heap.objs.size], _, _, H1, rfl, I2, turn_enumT a (s1.heap.objs.size + 1) s1.heap.objs.size,
        ⟨⟨.none, he⟩, ⟨_, hit, rfl, rfl⟩, Nat.succ_ne_self _, Nat.ne_of_lt hlt, Nat.ne_of_lt (Nat.lt_succ_of_lt hlt)⟩, fun b hb => I1.fpOk (fin b hb) (I1.hok.fresh (fin b hb)), q⟩
end Mr

set_option linter.all false
set_option maxRecDepth 100000
/-! MirP: the plain part of the mirrors: Option computations (none: the model's rules do not cover it), folds, loops. -/
namespace Mr
theorem bindS {α β : Type} {o : Option α} {f : α → Option β} {r : β} (h : o.bind f = some r) : ∃ a, o = some a ∧ f a = some r := by
  cases o with
  | none => cases h
  | some a => exact ⟨a, rfl, h⟩
def fdivM (a b : Int) : Option Int := if 0 < b ∧ b.natAbs.log2 < 9000 then some (a / b) else none
def modM (a b : Int) : Option Int := if 0 < b then some (a % b) else none
def mulM (a b : Int) : Option Int := if (-(2 ^ 64) < a ∧ a < 2 ^ 64) ∨ (-(2 ^ 64) < b ∧ b < 2 ^ 64) then some (a * b) else none
def ixM (n : Nat) (i : Int) : Option Nat := if 0 ≤ i then (if i < n then some i.toNat else none) else if -(n : Int) ≤ i then some (i + n).toNat else none
def getM {α : Type} (xs : List α) (i : Int) : Option α := (ixM xs.length i).bind fun j => xs[j]?
def setM {α : Type} (xs : List α) (i : Int) (x : α) : Option (List α) := (ixM xs.length i).bind fun j => some (xs.set j x)
def appM {α : Type} (xs : List α) (x : α) : Option (List α) := if xs.length < 100000 then some (xs ++ [x]) else none
def rngM (n : Int) : Option (List Int) := if -(2 ^ 62) ≤ n ∧ n < 2 ^ 62 then some ((List.range n.toNat).map fun (i : Nat) => (i : Int)) else none
def rng2M (a b : Int) : Option (List Int) := if -(2 ^ 62) ≤ a ∧ a < 2 ^ 62 ∧ -(2 ^ 62) ≤ b ∧ b < 2 ^ 62 then some ((List.range (b - a).toNat).map fun (i : Nat) => a + (i : Int)) else none
def enumF {α : Type} : Nat → List α → List (Int × α)
  | _, [] => []
  | k, x :: xs => ((k : Int), x) :: enumF (k + 1) xs
def enumM {α : Type} (xs : List α) : List (Int × α) := enumF 0 xs
def slIx (n d : Nat) : Option Int → Nat
  | none => d
  | some v => if v < 0 then (v + (n : Int)).toNat else min v.toNat n
def cutM {α : Type} (xs : List α) (lo hi : Option Int) : List α := (xs.drop (slIx xs.length 0 lo)).take (slIx xs.length xs.length hi - slIx xs.length 0 lo)
def catM {α : Type} (xs ys : List α) : Option (List α) := if xs.length + ys.length ≤ 100000 then some (xs ++ ys) else none
theorem catM_some {α : Type} {xs ys zs : List α} (h : catM xs ys = some zs) : xs.length + ys.length ≤ 100000 ∧ xs ++ ys = zs := by
  unfold catM at h
  split at h
  · rename_i c; exact ⟨c, Option.some.inj h⟩
  · cases h
def szM {α : Type} (xs : List α) : Option (List α) := if xs.length ≤ 100000 then some xs else none
theorem szM_some {α : Type} {xs ys : List α} (h : szM xs = some ys) : xs.length ≤ 100000 ∧ xs = ys := by
  unfold szM at h
  split at h
  · rename_i c; exact ⟨c, Option.some.inj h⟩
  · cases h
/-- a loop that is never left -/
def folM {α σ : Type} (f : σ → α → Option σ) : List α → σ → Option σ
  | [], s => some s
  | x :: xs, s => (f s x).bind fun s' => folM f xs s'
/-- a turn's end, a loop's end -/
inductive Bf (σ ρ : Type) where
  | go (s : σ) | bk (s : σ) | rt (r : ρ)
inductive Fl (σ ρ : Type) where
  | nx (s : σ) | rt (r : ρ)
def forL {α σ ρ : Type} (f : σ → α → Option (Bf σ ρ)) : List α → σ → Option (Fl σ ρ)
  | [], s => some (.nx s)
  | x :: xs, s => (f s x).bind fun b => match b with
    | .go s' => forL f xs s'
    | .bk s' => some (.nx s')
    | .rt r => some (.rt r)
def conL {α σ ρ : Type} (f : σ → α → Option (Bf σ ρ)) (xs : List α) : Bf σ ρ → Option (Fl σ ρ)
  | .go s' => forL f xs s'
  | .bk s' => some (.nx s')
  | .rt r => some (.rt r)
theorem forL_cons {α σ ρ : Type} {f : σ → α → Option (Bf σ ρ)} {x : α} {xs : List α} {s : σ} : forL f (x :: xs) s = (f s x).bind (conL f xs) := by
  show (f s x).bind _ = _
  congr 1
/-- [e for x in xs if t]: none of a turn: left out -/
def mapM' {α β : Type} (f : α → Option β) : List α → Option (List β)
  | [] => some []
  | x :: xs => (f x).bind fun y => (mapM' f xs).bind fun ys => some (y :: ys)
def selM {α β : Type} (f : α → Option (Option β)) : List α → Option (List β)
  | [] => some []
  | x :: xs => (f x).bind fun y => (selM f xs).bind fun ys => some (match y with
    | some z => z :: ys
    | none => ys)
/-- while: n turns at most -/
def whlM {σ : Type} (c : σ → Option Bool) (f : σ → Option σ) : Nat → σ → Option σ
  | 0, _ => none
  | n + 1, s => (c s).bind fun b => if b then (f s).bind fun s' => whlM c f n s' else some s
/-- while: test and body as one turn; N turns at most -/
def whL {σ ρ : Type} (f : σ → Option (Bf σ ρ)) : Nat → σ → Option (Fl σ ρ)
  | 0, _ => none
  | n + 1, s => (f s).bind fun b => match b with
    | .go s' => whL f n s'
    | .bk s' => some (.nx s')
    | .rt r => some (.rt r)
def conW {σ ρ : Type} (f : σ → Option (Bf σ ρ)) (n : Nat) : Bf σ ρ → Option (Fl σ ρ)
  | .go s' => whL f n s'
  | .bk s' => some (.nx s')
  | .rt r => some (.rt r)
theorem whL_succ {σ ρ : Type} {f : σ → Option (Bf σ ρ)} {n : Nat} {s : σ} : whL f (n + 1) s = (f s).bind (conW f n) := by
  show (f s).bind _ = _
  congr 1
def goF {α σ : Type} (ρ : Type) (f : σ → α → Option σ) : σ → α → Option (Bf σ ρ) := fun s x => (f s x).bind fun s' => some (.go s')
theorem goF_some {α σ ρ : Type} {f : σ → α → Option σ} {s : σ} {x : α} {b : Bf σ ρ} (h : goF ρ f s x = some b) : ∃ s', f s x = some s' ∧ Bf.go s' = b := by
  obtain ⟨s', h1, h2⟩ := bindS h
  exact ⟨s', h1, Option.some.inj h2⟩
theorem fol_for {α σ : Type} (ρ : Type) {f : σ → α → Option σ} : ∀ {xs : List α} {s r : σ}, folM f xs s = some r → forL (goF ρ f) xs s = some (.nx r)
  | [], s, r, h => by cases h; rfl
  | x :: xs, s, r, h => by
    obtain ⟨s', h1, h2⟩ := bindS h
    rw [forL_cons]
    show ((f s x).bind fun s' => some (Bf.go s')).bind _ = _
    rw [h1]
    exact fol_for ρ h2
theorem mulM_some {a b x : Int} (h : mulM a b = some x) : ((-(2 ^ 64) < a ∧ a < 2 ^ 64) ∨ (-(2 ^ 64) < b ∧ b < 2 ^ 64)) ∧ a * b = x := by
  unfold mulM at h
  split at h
  · rename_i c; exact ⟨c, Option.some.inj h⟩
  · cases h
theorem fdivM_some {a b x : Int} (h : fdivM a b = some x) : (0 < b ∧ b.natAbs.log2 < 9000) ∧ a / b = x := by
  unfold fdivM at h
  split at h
  · rename_i c; exact ⟨c, Option.some.inj h⟩
  · cases h
theorem modM_some {a b x : Int} (h : modM a b = some x) : 0 < b ∧ a % b = x := by
  unfold modM at h
  split at h
  · rename_i c; exact ⟨c, Option.some.inj h⟩
  · cases h
theorem appM_some {α : Type} {xs ys : List α} {x : α} (h : appM xs x = some ys) : xs.length < 100000 ∧ xs ++ [x] = ys := by
  unfold appM at h
  split at h
  · rename_i c; exact ⟨c, Option.some.inj h⟩
  · cases h
theorem setM_some {α : Type} {xs ys : List α} {i : Int} {x : α} (h : setM xs i x = some ys) : ∃ j, ixM xs.length i = some j ∧ xs.set j x = ys := by
  obtain ⟨j, h1, h2⟩ := bindS h
  exact ⟨j, h1, Option.some.inj h2⟩
theorem rngM_some {n : Int} {xs : List Int} (h : rngM n = some xs) : (-(2 ^ 62) ≤ n ∧ n < 2 ^ 62) ∧ (List.range n.toNat).map (fun (i : Nat) => (i : Int)) = xs := by
  unfold rngM at h
  split at h
  · rename_i c; exact ⟨c, Option.some.inj h⟩
  · cases h
theorem rng2M_some {a b : Int} {xs : List Int} (h : rng2M a b = some xs) : (-(2 ^ 62) ≤ a ∧ a < 2 ^ 62 ∧ -(2 ^ 62) ≤ b ∧ b < 2 ^ 62) ∧ (List.range (b - a).toNat).map (fun (i : Nat) => a + (i : Int)) = xs := by
  unfold rng2M at h
  split at h
  · rename_i c; exact ⟨c, Option.some.inj h⟩
  · cases h
theorem folM_drop {α σ : Type} {f : σ → α → Option σ} {xs : List α} {s r : σ} {i : Nat} {x : α} (hx : xs[i]? = some x) (h : folM f (xs.drop i) s = some r) :
    ∃ s', f s x = some s' ∧ folM f (xs.drop (i + 1)) s' = some r := by
  have hi : i < xs.length := (List.getElem?_eq_some_iff.mp hx).1
  have e : xs[i] = x := (List.getElem?_eq_some_iff.mp hx).2
  rw [List.drop_eq_getElem_cons hi, e] at h
  exact bindS h
theorem forL_drop {α σ ρ : Type} {f : σ → α → Option (Bf σ ρ)} {xs : List α} {s : σ} {r : Fl σ ρ} {i : Nat} {x : α} (hx : xs[i]? = some x) (h : forL f (xs.drop i) s = some r) :
    ∃ b, f s x = some b ∧ conL f (xs.drop (i + 1)) b = some r := by
  have hi : i < xs.length := (List.getElem?_eq_some_iff.mp hx).1
  have e : xs[i] = x := (List.getElem?_eq_some_iff.mp hx).2
  rw [List.drop_eq_getElem_cons hi, e, forL_cons] at h
  exact bindS h
theorem enumF_get {α : Type} : ∀ (xs : List α) (k i : Nat), (enumF k xs)[i]? = (xs[i]?).map fun x => (((k + i : Nat) : Int), x)
  | [], k, i => by simp [enumF]
  | x :: xs, k, 0 => by simp [enumF]
  | x :: xs, k, i + 1 => by
    show (enumF (k + 1) xs)[i]? = _
    rw [enumF_get xs (k + 1) i]
    have e : k + 1 + i = k + (i + 1) := by omega
    rw [e]
    rfl
theorem enumF_length {α : Type} : ∀ (xs : List α) (k : Nat), (enumF k xs).length = xs.length
  | [], _ => rfl
  | x :: xs, k => congrArg Nat.succ (enumF_length xs (k + 1))
theorem enumM_get {α : Type} (xs : List α) (i : Nat) : (enumM xs)[i]? = (xs[i]?).map fun x => ((i : Int), x) := by
  unfold enumM
  rw [enumF_get, Nat.zero_add]
theorem enumM_length {α : Type} (xs : List α) : (enumM xs).length = xs.length := enumF_length xs 0
/-- the sides of a ring -/
def sidesM {α : Type} (xs : List α) : List (α × α) := xs.zip (xs.drop 1 ++ xs.take 1)
theorem sidesM_length {α : Type} (xs : List α) : (sidesM xs).length = xs.length := by
  unfold sidesM
  rw [List.length_zip, List.length_append, List.length_drop, List.length_take]
  omega
theorem sidesM_get {α : Type} (xs : List α) {i : Nat} {p : α × α} (h : (sidesM xs)[i]? = some p) : xs[i]? = some p.1 ∧ xs[(i + 1) % xs.length]? = some p.2 := by
  unfold sidesM at h
  rw [List.getElem?_zip_eq_some] at h
  refine ⟨h.1, ?_⟩
  have hi : i < xs.length := (List.getElem?_eq_some_iff.mp h.1).1
  have h2 := h.2
  by_cases hl : i + 1 < xs.length
  · rw [List.getElem?_append_left (by rw [List.length_drop]; omega), List.getElem?_drop, Nat.add_comm] at h2
    rw [Nat.mod_eq_of_lt hl]; exact h2
  · have e : i + 1 = xs.length := by omega
    rw [List.getElem?_append_right (by rw [List.length_drop]; omega), List.length_drop] at h2
    have e2 : i - (xs.length - 1) = 0 := by omega
    rw [e2, List.getElem?_take_of_lt (by decide)] at h2
    rw [e, Nat.mod_self]; exact h2
def sdM {α : Type} (xs : List α) : Option (List (α × α)) := if xs.length ≤ 100000 then some (sidesM xs) else none
theorem sdM_some {α : Type} {xs : List α} {ys : List (α × α)} (h : sdM xs = some ys) : xs.length ≤ 100000 ∧ ys = sidesM xs := by
  unfold sdM at h
  split at h
  · next c => exact ⟨c, (Option.some.inj h).symm⟩
  · cases h
def maxM : List Int → Option Int
  | [] => none
  | x :: xs => some (xs.foldl (fun a b => if a < b then b else a) x)
theorem maxF_ge : ∀ (xs : List Int) (x : Int), x ≤ xs.foldl (fun a b => if a < b then b else a) x ∧ (∀ y ∈ xs, y ≤ xs.foldl (fun a b => if a < b then b else a) x) ∧ (xs.foldl (fun a b => if a < b then b else a) x = x ∨ xs.foldl (fun a b => if a < b then b else a) x ∈ xs)
  | [], x => ⟨Int.le_refl _, (fun y h => by cases h), .inl rfl⟩
  | z :: xs, x => by
    obtain ⟨h1, h2, h3⟩ := maxF_ge xs (if x < z then z else x)
    have ha : x ≤ (if x < z then z else x) := by split <;> omega
    have hb : z ≤ (if x < z then z else x) := by split <;> omega
    refine ⟨Int.le_trans ha h1, fun y hy => ?_, ?_⟩
    · rcases List.mem_cons.mp hy with rfl | hy
      · exact Int.le_trans hb h1
      · exact h2 y hy
    · rcases h3 with h3 | h3
      · show List.foldl _ (if x < z then z else x) xs = x ∨ _
        by_cases c : x < z
        · right
          show List.foldl _ (if x < z then z else x) xs ∈ z :: xs
          rw [h3, if_pos c]; exact List.mem_cons_self ..
        · left
          rw [h3, if_neg c]
      · exact .inr (List.mem_cons_of_mem _ h3)
theorem maxM_some {xs : List Int} {m : Int} (h : maxM xs = some m) : m ∈ xs ∧ (∀ y ∈ xs, y ≤ m) ∧ 0 < xs.length := by
  cases xs with
  | nil => cases h
  | cons x xs =>
    cases h
    obtain ⟨h1, h2, h3⟩ := maxF_ge xs x
    refine ⟨?_, fun y hy => ?_, by simp⟩
    · rcases h3 with h3 | h3
      · rw [h3]; exact List.mem_cons_self ..
      · exact List.mem_cons_of_mem _ h3
    · rcases List.mem_cons.mp hy with rfl | hy
      · exact h1
      · exact h2 y hy
theorem max_uniq {xs : List Int} {m m' : Int} (h : m ∈ xs ∧ ∀ y ∈ xs, y ≤ m) (h' : m' ∈ xs ∧ ∀ y ∈ xs, y ≤ m') : m = m' := by
  have := h.2 m' h'.1
  have := h'.2 m h.1
  omega
end Mr

set_option Elab.async false
set_option linter.all false
set_option maxRecDepth 100000
set_option maxHeartbeats 2000000
/-! Mir: worlds (frozen part G, owned part O), what data a value stands for (R), steps and loops over the readings of HandS. -/
namespace Mr
open PySem PySem.Spec PyProof.Rows L2

/-! ### worlds -/
def Ext (G H : Hp) : Prop := ∀ a o, G a = some o → H a = some o
theorem Ext.refl (H : Hp) : Ext H H := fun _ _ h => h
theorem Ext.trans {H H1 H2 : Hp} (a : Ext H H1) (b : Ext H1 H2) : Ext H H2 := fun x o h => b x o (a x o h)
abbrev Own := List (Addr × HO)
structure Sub (G : Hp) (O : Own) (H : Hp) : Prop where
  ext : Ext G H
  own : ∀ p ∈ O, H p.1 = some p.2 ∧ G p.1 = none
  nd : (O.map (·.1)).Nodup
  nt : ∀ b ps, G b ≠ some (.tbl ps)
section
variable {G G' H H' : Hp} {O O' : Own} {a b p : Addr} {o o' : HO}
theorem Sub.gnone (S : Sub G O H) (hp : H p = none) : G p = none := by
  cases h : G p with
  | none => rfl
  | some u => rw [S.ext p u h] at hp; cases hp
theorem Sub.junk (S : Sub G O H) (hp : H p = none) : Sub G O (upd H p o) := by
  refine ⟨fun x u h => ?_, fun q hq => ?_, S.nd, S.nt⟩
  · rw [upd_ne (ne_of_none (S.ext x u h) hp)]; exact S.ext x u h
  · obtain ⟨h1, h2⟩ := S.own q hq
    exact ⟨by rw [upd_ne (ne_of_none h1 hp)]; exact h1, h2⟩
theorem Sub.extNew (S : Sub G O H) (hp : H p = none) (o : HO) : Ext G (upd G p o) := fun x u h => by
  rw [upd_ne (ne_of_none h (S.gnone hp))]; exact h
theorem Sub.new (S : Sub G O H) (hp : H p = none) (ho : ∀ ps, o ≠ .tbl ps := by intro ps z; cases z) : Sub (upd G p o) O (upd H p o) := by
  refine ⟨fun x u h => ?_, fun q hq => ?_, S.nd, fun b ps z => ?_⟩
  · by_cases e : x = p
    · subst e; rw [upd_same] at h ⊢; exact h
    · rw [upd_ne e] at h ⊢; exact S.ext x u h
  · obtain ⟨h1, h2⟩ := S.own q hq
    have e := ne_of_none h1 hp
    exact ⟨by rw [upd_ne e]; exact h1, by rw [upd_ne e]; exact h2⟩
  · by_cases e : b = p
    · subst e; rw [upd_same] at z; exact ho ps (Option.some.inj z)
    · rw [upd_ne e] at z; exact S.nt b ps z
theorem Sub.newOwn (S : Sub G O H) (hp : H p = none) : Sub G ((p, o) :: O) (upd H p o) := by
  refine ⟨(S.junk hp).ext, fun q hq => ?_, ?_, S.nt⟩
  · rcases List.mem_cons.mp hq with e | hq
    · subst e; exact ⟨upd_same, S.gnone hp⟩
    · exact (S.junk hp).own q hq
  · refine List.nodup_cons.mpr ⟨fun hm => ?_, S.nd⟩
    obtain ⟨q, hq, e⟩ := List.mem_map.mp hm
    exact ne_of_none (S.own q hq).1 hp e
theorem Sub.head (S : Sub G ((a, o) :: O) H) : H a = some o := (S.own (a, o) (List.mem_cons_self ..)).1
theorem Sub.ghead (S : Sub G ((a, o) :: O) H) : G a = none := (S.own (a, o) (List.mem_cons_self ..)).2
theorem Sub.tail (S : Sub G ((a, o) :: O) H) : Sub G O H :=
  ⟨S.ext, fun q hq => S.own q (List.mem_cons_of_mem _ hq), (List.nodup_cons.mp S.nd).2, S.nt⟩
theorem Sub.head_ne (S : Sub G ((a, o) :: O) H) : ∀ q ∈ O, q.1 ≠ a := fun q hq e =>
  (List.nodup_cons.mp S.nd).1 (List.mem_map.mpr ⟨q, hq, e⟩)
/-- the first owned object is written -/
theorem Sub.wr (S : Sub G ((a, o) :: O) H) : Sub G ((a, o') :: O) (upd H a o') := by
  refine ⟨fun x u h => ?_, fun q hq => ?_, S.nd, S.nt⟩
  · have e : x ≠ a := ne_of_none h S.ghead
    rw [upd_ne e]; exact S.ext x u h
  · rcases List.mem_cons.mp hq with e | hq
    · subst e; exact ⟨upd_same, S.ghead⟩
    · have e := S.head_ne q hq
      exact ⟨by rw [upd_ne e]; exact (S.tail.own q hq).1, (S.tail.own q hq).2⟩
/-- the first owned object is frozen -/
theorem Sub.frz (S : Sub G ((a, o) :: O) H) (ho : ∀ ps, o ≠ .tbl ps := by intro ps z; cases z) : Sub (upd G a o) O H := by
  refine ⟨fun x u h => ?_, fun q hq => ?_, S.tail.nd, fun b ps z => ?_⟩
  · by_cases e : x = a
    · subst e; rw [upd_same] at h; cases h; exact S.head
    · rw [upd_ne e] at h; exact S.ext x u h
  · rw [upd_ne (S.head_ne q hq)]; exact S.tail.own q hq
  · by_cases e : b = a
    · subst e; rw [upd_same] at z; exact ho ps (Option.some.inj z)
    · rw [upd_ne e] at z; exact S.nt b ps z
theorem Sub.extFrz (S : Sub G ((a, o) :: O) H) : Ext G (upd G a o) := fun x u h => by
  rw [upd_ne (ne_of_none h S.ghead)]; exact h
theorem Sub.perm (S : Sub G O H) (h : O.Perm O') : Sub G O' H :=
  ⟨S.ext, fun q hq => S.own q (h.mem_iff.mpr hq), (h.map _).nodup_iff.mp S.nd, S.nt⟩
theorem perm_erase {α : Type} : ∀ (l : List α) (i : Nat) (q : α), l[i]? = some q → l.Perm (q :: l.eraseIdx i)
  | [], i, q, h => by simp at h
  | x :: l, 0, q, h => by simp at h; subst h; exact List.Perm.refl _
  | x :: l, i + 1, q, h => by
    have ih := perm_erase l i q (by simpa using h)
    exact (List.Perm.cons x ih).trans (List.Perm.swap q x _)
/-- the i-th owned object to the front -/
theorem Sub.front (S : Sub G O H) (i : Nat) {q : Addr × HO} {O' : Own} (h : O[i]? = some q) (h' : O.eraseIdx i = O') : Sub G (q :: O') H := by
  subst h'
  exact S.perm (perm_erase O i q h)
/-- the begin: the script's list alone is known, and what O says is owned -/
theorem Sub.start {K : PySem.W.Frag} {H : Hp} {O : Own} {a : Addr} {xs : List V} (h : SqL K H a xs) (ho : ∀ p ∈ O, H p.1 = some p.2 ∧ p.1 ≠ a) (nd : (O.map (·.1)).Nodup) : ∃ G, Sub G O H ∧ SqL K G a xs := by
  rcases h with (h | ⟨o, h⟩) | h
  · refine ⟨fun b => if b = a then some (.lst xs) else none, ⟨fun b u e => ?_, fun p hp => ⟨(ho p hp).1, if_neg (ho p hp).2⟩, nd, fun b ps e => ?_⟩, .inl (.inl (if_pos rfl))⟩
    · by_cases q : b = a
      · rw [if_pos q] at e; rw [q, ← e]; exact h
      · rw [if_neg q] at e; cases e
    · by_cases q : b = a
      · rw [if_pos q] at e; cases e
      · rw [if_neg q] at e; cases e
  · refine ⟨fun b => if b = a then some (.frz o (.lst xs)) else none, ⟨fun b u e => ?_, fun p hp => ⟨(ho p hp).1, if_neg (ho p hp).2⟩, nd, fun b ps e => ?_⟩, .inl (.inr ⟨o, if_pos rfl⟩)⟩
    · by_cases q : b = a
      · rw [if_pos q] at e; rw [q, ← e]; exact h
      · rw [if_neg q] at e; cases e
    · by_cases q : b = a
      · rw [if_pos q] at e; cases e
      · rw [if_neg q] at e; cases e
  · exact ⟨fun _ => none, ⟨fun b u e => (by cases e), fun p hp => ⟨(ho p hp).1, rfl⟩, nd, fun b ps e => (by cases e)⟩, .inr h⟩
end

/-! ### what a value stands for -/
structure R (α : Type) where
  rel : Hp → V → α → Prop
  mono : ∀ {G G' : Hp} {v : V} {x : α}, Ext G G' → rel G v x → rel G' v x
theorem R.up {α : Type} {r : R α} {G G' : Hp} {v : V} {x : α} (e : Ext G G') (h : r.rel G v x) : r.rel G' v x := r.mono e h
def rSc {α : Type} (f : α → V) : R α := ⟨fun _ v x => v = f x, fun _ h => h⟩
abbrev rInt : R Int := rSc V.int
abbrev rBool : R Bool := rSc V.bl
abbrev rStr : R Str := rSc V.str
abbrev rNon : R Unit := rSc fun _ => V.non
def Al {α : Type} (r : R α) (G : Hp) : List V → List α → Prop
  | [], [] => True
  | v :: vs, x :: xs => r.rel G v x ∧ Al r G vs xs
  | _, _ => False
section
variable {α β γ : Type} {r : R α} {G G' H : Hp} {K : PySem.W.Frag} {v w : V} {vs : List V} {x : α} {xs : List α} {a : Addr}
theorem Al.nil : Al r G [] [] := True.intro
theorem Al.up (e : Ext G G') : ∀ {vs : List V} {xs : List α}, Al r G vs xs → Al r G' vs xs
  | [], [], _ => True.intro
  | _ :: _, _ :: _, h => ⟨r.mono e h.1, Al.up e h.2⟩
  | [], _ :: _, h => h.elim
  | _ :: _, [], h => h.elim
theorem Al.len : ∀ {vs : List V} {xs : List α}, Al r G vs xs → vs.length = xs.length
  | [], [], _ => rfl
  | _ :: _, _ :: _, h => congrArg Nat.succ (Al.len h.2)
  | [], _ :: _, h => h.elim
  | _ :: _, [], h => h.elim
theorem Al.get : ∀ {vs : List V} {xs : List α} {i : Nat} {x : α}, Al r G vs xs → xs[i]? = some x → ∃ v, vs[i]? = some v ∧ r.rel G v x
  | [], [], i, x, _, e => by simp at e
  | v :: vs, y :: xs, 0, x, h, e => by simp at e; subst e; exact ⟨v, rfl, h.1⟩
  | v :: vs, y :: xs, i + 1, x, h, e => by
    obtain ⟨w, h1, h2⟩ := Al.get (i := i) h.2 (by simpa using e)
    exact ⟨w, by simpa using h1, h2⟩
  | [], _ :: _, _, _, h, _ => h.elim
  | _ :: _, [], _, _, h, _ => h.elim
theorem Al.getV : ∀ {vs : List V} {xs : List α} {i : Nat} {v : V}, Al r G vs xs → vs[i]? = some v → ∃ x, xs[i]? = some x ∧ r.rel G v x
  | [], [], i, v, _, e => by simp at e
  | v :: vs, y :: xs, 0, w, h, e => by simp at e; subst e; exact ⟨y, rfl, h.1⟩
  | v :: vs, y :: xs, i + 1, w, h, e => by
    obtain ⟨z, h1, h2⟩ := Al.getV (i := i) h.2 (by simpa using e)
    exact ⟨z, by simpa using h1, h2⟩
  | [], _ :: _, _, _, h, _ => h.elim
  | _ :: _, [], _, _, h, _ => h.elim
theorem Al.app : ∀ {vs ws : List V} {xs ys : List α}, Al r G vs xs → Al r G ws ys → Al r G (vs ++ ws) (xs ++ ys)
  | [], _, [], _, _, h => h
  | _ :: _, _, _ :: _, _, h, h' => ⟨h.1, Al.app h.2 h'⟩
  | [], _, _ :: _, _, h, _ => h.elim
  | _ :: _, _, [], _, h, _ => h.elim
theorem Al.set : ∀ {vs : List V} {xs : List α} (i : Nat), Al r G vs xs → r.rel G v x → Al r G (vs.set i v) (xs.set i x)
  | [], [], _, _, _ => True.intro
  | _ :: _, _ :: _, 0, h, h' => ⟨h', h.2⟩
  | _ :: _, _ :: _, i + 1, h, h' => ⟨h.1, Al.set i h.2 h'⟩
  | [], _ :: _, _, h, _ => h.elim
  | _ :: _, [], _, h, _ => h.elim
theorem Al.take : ∀ {vs : List V} {xs : List α} (n : Nat), Al r G vs xs → Al r G (vs.take n) (xs.take n)
  | _, _, 0, _ => True.intro
  | [], [], _ + 1, _ => True.intro
  | _ :: _, _ :: _, n + 1, h => ⟨h.1, Al.take n h.2⟩
  | [], _ :: _, _ + 1, h => h.elim
  | _ :: _, [], _ + 1, h => h.elim
theorem Al.drop : ∀ {vs : List V} {xs : List α} (n : Nat), Al r G vs xs → Al r G (vs.drop n) (xs.drop n)
  | _, _, 0, h => h
  | [], [], _ + 1, _ => True.intro
  | _ :: _, _ :: _, n + 1, h => Al.drop n h.2
  | [], _ :: _, _ + 1, h => h.elim
  | _ :: _, [], _ + 1, h => h.elim
theorem Al.sc {f : α → V} : ∀ {vs : List V} {xs : List α}, Al (rSc f) G vs xs → vs = xs.map f
  | [], [], _ => rfl
  | _ :: _, _ :: _, h => by rw [h.1, Al.sc h.2]; rfl
  | [], _ :: _, h => h.elim
  | _ :: _, [], h => h.elim
theorem Al.ofSc {f : α → V} : ∀ {xs : List α}, Al (rSc f) G (xs.map f) xs
  | [] => True.intro
  | _ :: _ => ⟨rfl, Al.ofSc⟩
end
theorem sqL_up {K : PySem.W.Frag} {G G' : Hp} {a : Addr} {xs : List V} (e : Ext G G') (h : SqL K G a xs) : SqL K G' a xs := by
  rcases h with (h | ⟨o, h⟩) | h
  · exact .inl (.inl (e _ _ h))
  · exact .inl (.inr ⟨o, e _ _ h⟩)
  · exact .inr h
theorem sqT_up {K : PySem.W.Frag} {G G' : Hp} {a : Addr} {xs : List V} (e : Ext G G') (h : SqT K G a xs) : SqT K G' a xs := by
  rcases h with (h | ⟨o, h⟩) | h
  · exact .inl (.inl (e _ _ h))
  · exact .inl (.inr ⟨o, e _ _ h⟩)
  · exact .inr h
section
variable (K : PySem.W.Frag) {α β γ δ : Type}
/-- a list; a tuple of any length; either -/
def rL (r : R α) : R (List α) := ⟨fun G v xs => ∃ p vs, v = .ref p ∧ SqL K G p vs ∧ Al r G vs xs, fun e ⟨p, vs, h1, h2, h3⟩ => ⟨p, vs, h1, sqL_up e h2, h3.up e⟩⟩
def rT (r : R α) : R (List α) := ⟨fun G v xs => ∃ p vs, v = .ref p ∧ SqT K G p vs ∧ Al r G vs xs, fun e ⟨p, vs, h1, h2, h3⟩ => ⟨p, vs, h1, sqT_up e h2, h3.up e⟩⟩
def rQ (r : R α) : R (List α) := ⟨fun G v xs => ∃ p vs, v = .ref p ∧ (SqL K G p vs ∨ SqT K G p vs) ∧ Al r G vs xs, fun e ⟨p, vs, h1, h2, h3⟩ => ⟨p, vs, h1, h2.imp (sqL_up e) (sqT_up e), h3.up e⟩⟩
end

/-! ### rules with a cut, ints and bools compared -/
def tCutE (t : TE) : TE := fun σ H Q => ∃ J : VK, t σ H J ∧ ∀ v H', J v H' → Q v H'
def tCutT (t : TT) : TT := fun σ H Q => ∃ J : Bool → Hp → Prop, t σ H J ∧ ∀ b H', J b H' → Q b H'
def tCutS (t : TS) : TS := fun D σ H => ∃ J : L2.St → Hp → Prop, t { D with nx := J } σ H ∧ ∀ σ' H', J σ' H' → D.nx σ' H'
section
variable {X : Cx} {e : Expr} {st : Stmt} {te : TE} {tt : TT} {ts : TS}
theorem pe_cut (h : PE X e te) : PE X e (tCutE te) := by
  refine ⟨fun pins s σ H Q I hq => ?_⟩
  obtain ⟨J, h1, h2⟩ := hq
  exact thn (h.run pins s σ H J I h1) fun v s1 ⟨x, H1, I1, r1, q1⟩ => ⟨x, H1, I1, r1, h2 _ _ q1⟩
theorem pt_cut (h : PT X e tt) : PT X e (tCutT tt) := by
  refine ⟨fun pins s σ H Q I hq => ?_⟩
  obtain ⟨J, h1, h2⟩ := hq
  exact thn (h.run pins s σ H J I h1) fun b s1 ⟨H1, I1, q1⟩ => ⟨H1, I1, h2 _ _ q1⟩
theorem ps_cut (h : PS X st ts) : PS X st (tCutS ts) := by
  refine ⟨fun pins s σ H D I hq => ?_⟩
  obtain ⟨J, h1, h2⟩ := hq
  refine thn (h.run pins s σ H { D with nx := J } I h1) fun f s1 q => ?_
  cases f with
  | next => obtain ⟨σ', H', I', q⟩ := q; exact ⟨σ', H', I', h2 _ _ q⟩
  | ret v => exact q
  | brk => exact q
  | cont => exact q
theorem op_eqI : OpR X (compareOp .Eq) (rI0 fun i j => .bl (decide (i = j))) := fun pins s σ H x y v u Q I rx ry h => by
  obtain ⟨i, j, rfl, rfl, q⟩ := h
  refine op_eq pins s σ H _ _ v u Q I rx ry ⟨rfl, ?_⟩
  have e : decide (V.int i = V.int j) = decide (i = j) := by
    by_cases h : i = j
    · subst h; simp
    · rw [decide_eq_false h, decide_eq_false (fun z => h (V.int.inj z))]
  rw [e]; exact q
theorem op_neI : OpR X (compareOp .NotEq) (rI0 fun i j => .bl (!decide (i = j))) := fun pins s σ H x y v u Q I rx ry h => by
  obtain ⟨i, j, rfl, rfl, q⟩ := h
  refine op_ne pins s σ H _ _ v u Q I rx ry ⟨rfl, ?_⟩
  have e : decide (V.int i = V.int j) = decide (i = j) := by
    by_cases h : i = j
    · subst h; simp
    · rw [decide_eq_false h, decide_eq_false (fun z => h (V.int.inj z))]
  rw [e]; exact q
def rB0 (g : Bool → Bool → V) : R2 := fun x y H Q => ∃ i j, x = .bl i ∧ y = .bl j ∧ Q (g i j) H
theorem op_eqB : OpR X (compareOp .Eq) (rB0 fun i j => .bl (i == j)) := fun pins s σ H x y v u Q I rx ry h => by
  obtain ⟨i, j, rfl, rfl, q⟩ := h
  refine op_eq pins s σ H _ _ v u Q I rx ry ⟨rfl, ?_⟩
  have e : decide (V.bl i = V.bl j) = (i == j) := by cases i <;> cases j <;> rfl
  rw [e]; exact q
theorem op_neB : OpR X (compareOp .NotEq) (rB0 fun i j => .bl (i != j)) := fun pins s σ H x y v u Q I rx ry h => by
  obtain ⟨i, j, rfl, rfl, q⟩ := h
  refine op_ne pins s σ H _ _ v u Q I rx ry ⟨rfl, ?_⟩
  have e : (!decide (V.bl i = V.bl j)) = (i != j) := by cases i <;> cases j <;> rfl
  rw [e]; exact q
def rS0 (g : Str → Str → V) : R2 := fun x y H Q => ∃ i j, x = .str i ∧ y = .str j ∧ Q (g i j) H
theorem op_eqS : OpR X (compareOp .Eq) (rS0 fun i j => .bl (decide (i = j))) := fun pins s σ H x y v u Q I rx ry h => by
  obtain ⟨i, j, rfl, rfl, q⟩ := h
  refine op_eq pins s σ H _ _ v u Q I rx ry ⟨rfl, ?_⟩
  have e : decide (V.str i = V.str j) = decide (i = j) := by
    by_cases h : i = j
    · subst h; simp
    · rw [decide_eq_false h, decide_eq_false (fun z => h (V.str.inj z))]
  rw [e]; exact q
theorem op_neS : OpR X (compareOp .NotEq) (rS0 fun i j => .bl (!decide (i = j))) := fun pins s σ H x y v u Q I rx ry h => by
  obtain ⟨i, j, rfl, rfl, q⟩ := h
  refine op_ne pins s σ H _ _ v u Q I rx ry ⟨rfl, ?_⟩
  have e : decide (V.str i = V.str j) = decide (i = j) := by
    by_cases h : i = j
    · subst h; simp
    · rw [decide_eq_false h, decide_eq_false (fun z => h (V.str.inj z))]
  rw [e]; exact q
end

/-! ### relations by name -/
def rLenM (K : PySem.W.Frag) : List V → Hp → VK → Prop := fun xs H Q => ∃ p ys, xs = [.ref p] ∧ (SqL K H p ys ∨ SqT K H p ys) ∧ Q (.int ys.length) H
def rTupOf (K : PySem.W.Frag) : List V → Hp → VK → Prop := fun xs H Q => ∃ p ys, xs = [.ref p] ∧ ((SqL K H p ys ∧ ∀ l, H l = none → Q (.ref l) (upd H l (.tup ys))) ∨ (SqT K H p ys ∧ Q (.ref p) H))
def rListOf (K : PySem.W.Frag) : List V → Hp → VK → Prop := fun xs H Q => ∃ p ys, xs = [.ref p] ∧ (SqL K H p ys ∨ SqT K H p ys) ∧ ∀ l, H l = none → Q (.ref l) (upd H l (.lst ys))
section
variable {X : Cx}
theorem call_lenM : CallR X (.builtin "len") (rLenM X.K) := call_len_seq
theorem call_tupOf : CallR X (.type "tuple") (rTupOf X.K) := call_tuple_of
theorem call_listOf : CallR X (.type "list") (rListOf X.K) := call_list_of
end
def mkTup (xs : List V) (H : Hp) (Q : VK) : Prop := xs.length ≤ sizeLine ∧ ∀ p, H p = none → Q (.ref p) (upd H p (.tup xs))
def mkLst (xs : List V) (H : Hp) (Q : VK) : Prop := xs.length ≤ sizeLine ∧ ∀ p, H p = none → Q (.ref p) (upd H p (.lst xs))
def LpW (g : TG) (tb : TS) (D : Ends) (σ : L2.St) (J : It) (H : Hp) : Prop := ∃ W : Nat → Nat → L2.St → Hp → Prop, (∃ m, W 0 m σ H) ∧ ∀ i m σ H, W i m σ H →
  (J.stop i H ∧ D.nx σ H) ∨ (J.go i H ∧ ∃ N : L2.St → Hp → Prop, (∀ σ' H', N σ' H' → ∃ m', m' < m ∧ W (i + 1) m' σ' H') ∧ ∀ x H', J.yld i H x H' → g x σ H' fun σ2 H2 => tb { D with nx := N, ct := N, bk := D.nx } σ2 H2)
def itL (K : PySem.W.Frag) (x : V) (H : Hp) (RI : It → Hp → Prop) : Prop := ∃ a, x = .ref a ∧ (∃ xs, SqL K H a xs) ∧ RI (Itl K a) H
def itT (K : PySem.W.Frag) (x : V) (H : Hp) (RI : It → Hp → Prop) : Prop := ∃ a, x = .ref a ∧ (∃ xs, SqT K H a xs) ∧ RI (Itt K a) H
def itR (vs : List V) (H : Hp) (RI : It → Hp → Prop) : Prop := ∃ j : Int, vs = [.int j] ∧ -(2 ^ 62) ≤ j ∧ j < 2 ^ 62 ∧ RI (Itr 0 j.toNat) H
def itR2 (vs : List V) (H : Hp) (RI : It → Hp → Prop) : Prop := ∃ i j : Int, vs = [.int i, .int j] ∧ (-(2 ^ 62) ≤ i ∧ i < 2 ^ 62 ∧ -(2 ^ 62) ≤ j ∧ j < 2 ^ 62) ∧ RI (Itr i (j - i).toNat) H
def itE (K : PySem.W.Frag) (vs : List V) (H : Hp) (RI : It → Hp → Prop) : Prop := ∃ a xs, vs = [.ref a] ∧ ((SqL K H a xs ∧ RI (Ite K a) H) ∨ (SqT K H a xs ∧ RI (IteT K a) H))

/-! ### peeling a reading -/
section
variable {σ : L2.St} {H : Hp} {Q : VK} {QB : Bool → Hp → Prop} {QA : List V → Hp → Prop} {QO : Option Int → Hp → Prop} {v : V} {i j l : Nat} {ta tb te : TE} {tt tu : TT} {ts tr : TS} {t : TA} {D : Ends} {K : PySem.W.Frag}
theorem gV (e : σ[i]? = some (some v)) (h : Q v H) : tVar i σ H Q := ⟨v, e, h⟩
theorem gC (h : Q v H) : tC v σ H Q := h
theorem gOp {r : R2} (h : ta σ H fun x H1 => tb σ H1 fun y H2 => r x y H2 Q) : tOp r ta tb σ H Q := h
theorem gUn {r : V → Hp → VK → Prop} (h : ta σ H fun x H1 => r x H1 Q) : tUn r ta σ H Q := h
theorem gTest (h : te σ H fun x H' => ∃ k, x = .bl k ∧ QB k H') : tTest te σ H QB := h
theorem gB (h : te σ H fun x H' => ∃ k, x = .bl k ∧ QB k H') : tB te σ H QB := h
theorem gNot (h : tt σ H fun c H1 => QB (!c) H1) : tNot tt σ H QB := h
theorem gAnd (h : tt σ H fun c H1 => if c = true then tu σ H1 QB else QB false H1) : tAnd tt tu σ H QB := h
theorem gOr (h : tt σ H fun c H1 => if c = true then QB true H1 else tu σ H1 QB) : tOr tt tu σ H QB := h
theorem gAndV (h : ta σ H fun x H1 => ∃ c, x = .bl c ∧ if c = true then tb σ H1 Q else Q (.bl false) H1) : tAndV ta tb σ H Q := h
theorem gOrV (h : ta σ H fun x H1 => ∃ c, x = .bl c ∧ if c = true then Q (.bl true) H1 else tb σ H1 Q) : tOrV ta tb σ H Q := h
theorem gNotV (h : ta σ H fun x H1 => ∃ c, x = .bl c ∧ Q (.bl (!c)) H1) : tNotV ta σ H Q := h
theorem gIf (h : tt σ H fun c H1 => if c = true then ta σ H1 Q else tb σ H1 Q) : tIf tt ta tb σ H Q := h
theorem gCons' (h : ta σ H fun x H1 => t σ H1 fun xs H2 => QA (x :: xs) H2) : tCons ta t σ H QA := h
theorem gNil' (h : QA [] H) : tNil σ H QA := h
theorem gCB {r : List V → Hp → VK → Prop} (h : t σ H fun vs H1 => r vs H1 Q) : tCB r t σ H Q := h
theorem gCall {sp : Sp} {dvs : List V} {E : XK} (h : t σ H fun vs H1 => sp (vs ++ dvs) H1 Q E) : tCall sp dvs E t σ H Q := h
theorem gTup' (h : t σ H fun xs H1 => mkTup xs H1 Q) : tTup t σ H Q := h
theorem gLst (h : t σ H fun xs H1 => mkLst xs H1 Q) : tLst t σ H Q := h
theorem gSl {r : V → Option Int → Option Int → Hp → VK → Prop} {to tp : TO} (h : te σ H fun x H1 => to σ H1 fun l H2 => tp σ H2 fun u H3 => r x l u H3 Q) : tSl r te to tp σ H Q := h
theorem gPart (h : te σ H fun x H1 => ∃ i, x = .int i ∧ QO (some i) H1) : tPart te σ H QO := h
theorem gNoPart (h : QO none H) : tNoPart σ H QO := h
theorem gBM {T : String} {r : V → List V → Hp → VK → Prop} (h : te σ H fun x H1 => tyV K T x H1 ∧ t σ H1 fun xs H2 => r x xs H2 Q) : tBM K T r te t σ H Q := h
theorem gSeq (h : ts { D with nx := tr D } σ H) : tSeq ts tr D σ H := h
theorem gNext (h : D.nx σ H) : tNext D σ H := h
theorem gAsgN (h : te σ H fun x H1 => D.nx (σ.set i (some x)) H1) : tAsg te (gName i) D σ H := h
theorem gAsg {g : TG} (h : te σ H fun x H1 => g x σ H1 D.nx) : tAsg te g D σ H := h
theorem gSub' {ts' : TSet} {QS : L2.St → Hp → Prop} (h : ta σ H fun o H1 => tb σ H1 fun i H2 => ts' o i v H2 fun H3 => QS σ H3) : gSub ta tb ts' v σ H QS := h
theorem gPar (h : t σ H fun vs H1 => ∃ v w, vs = [v, w] ∧ D.nx ((σ.set i (some v)).set j (some w)) H1) : tPar i j t D σ H := h
theorem gPar3 (h : t σ H fun vs H1 => ∃ u v w, vs = [u, v, w] ∧ D.nx (((σ.set i (some u)).set j (some v)).set l (some w)) H1) : tPar3 i j l t D σ H := h
theorem gAug {ti : TIp} {x : V} (e : σ[i]? = some (some x)) (h : te σ H fun y H1 => ti x y H1 fun z H2 => D.nx (σ.set i (some z)) H2) : tAug i te ti D σ H := ⟨x, e, h⟩
theorem gDrop (h : te σ H fun _ H1 => D.nx σ H1) : tDrop te D σ H := h
theorem gRet (h : te σ H D.rt) : tRet te D σ H := h
theorem gIfS (h : tt σ H fun b H1 => if b = true then ts D σ H1 else tr D σ H1) : tIfS tt ts tr D σ H := h
theorem gFor {wi : TI} {g : TG} (h : wi σ H (LpW g ts D σ)) : tFor wi g ts D σ H := h
variable {RI : It → Hp → Prop}
theorem gIL (h : te σ H fun x H1 => itL K x H1 RI) : iList K te σ H RI := h
theorem gIT (h : te σ H fun x H1 => itT K x H1 RI) : iTup K te σ H RI := h
theorem gIR (h : t σ H fun vs H1 => itR vs H1 RI) : iRng1 t σ H RI := h
theorem gIR2 (h : t σ H fun vs H1 => itR2 vs H1 RI) : iRng2 t σ H RI := h
theorem gIE (h : t σ H fun vs H1 => itE K vs H1 RI) : iEnumQ K t σ H RI := h
theorem gCE (J : VK) (h : te σ H J) (h2 : ∀ v H', J v H' → Q v H') : tCutE te σ H Q := ⟨J, h, h2⟩
theorem gCT (J : Bool → Hp → Prop) (h : tt σ H J) (h2 : ∀ v H', J v H' → QB v H') : tCutT tt σ H QB := ⟨J, h, h2⟩
theorem gCS (J : L2.St → Hp → Prop) (h : ts { D with nx := J } σ H) (h2 : ∀ σ' H', J σ' H' → D.nx σ' H') : tCutS ts D σ H := ⟨J, h, h2⟩
theorem gS_AsgN (h : te σ H fun x H1 => tr D (σ.set i (some x)) H1) : tSeq (tAsg te (gName i)) tr D σ H := h
theorem gS_Asg {g : TG} (h : te σ H fun x H1 => g x σ H1 (tr D)) : tSeq (tAsg te g) tr D σ H := h
theorem gS_Par (h : t σ H fun vs H1 => ∃ v w, vs = [v, w] ∧ tr D ((σ.set i (some v)).set j (some w)) H1) : tSeq (tPar i j t) tr D σ H := h
theorem gS_Par3 (h : t σ H fun vs H1 => ∃ u v w, vs = [u, v, w] ∧ tr D (((σ.set i (some u)).set j (some v)).set l (some w)) H1) : tSeq (tPar3 i j l t) tr D σ H := h
theorem gS_Aug {ti : TIp} {x : V} (e : σ[i]? = some (some x)) (h : te σ H fun y H1 => ti x y H1 fun z H2 => tr D (σ.set i (some z)) H2) : tSeq (tAug i te ti) tr D σ H := ⟨x, e, h⟩
theorem gS_Drop (h : te σ H fun _ H1 => tr D σ H1) : tSeq (tDrop te) tr D σ H := h
theorem gS_IfS {tw : TS} (h : tt σ H fun b H1 => if b = true then ts { D with nx := tr D } σ H1 else tw { D with nx := tr D } σ H1) : tSeq (tIfS tt ts tw) tr D σ H := h
theorem gS_CS (J : L2.St → Hp → Prop) (h : ts { D with nx := J } σ H) (h2 : ∀ σ' H', J σ' H' → tr D σ' H') : tSeq (tCutS ts) tr D σ H := ⟨J, h, h2⟩
theorem gE {f bk ct : L2.St → Hp → Prop} {rt : VK} (h : f σ H) : Ends.nx ⟨f, rt, bk, ct⟩ σ H := h
theorem ne_false {b : Bool} (h : ¬ b = true) : b = false := by
  cases b with
  | true => exact (h rfl).elim
  | false => rfl
end

/-! ### sizes -/
theorem sz {n : Nat} (h : n ≤ 100000) : n ≤ sizeLine := Nat.le_trans h (by decide)
theorem szl {n : Nat} (h : n < 100000) : n < sizeLine := Nat.lt_of_lt_of_le h (by decide)
theorem sz0 : 0 ≤ sizeLine := sz (by decide)
theorem sz1 : 1 ≤ sizeLine := sz (by decide)
theorem sz2 : 2 ≤ sizeLine := sz (by decide)
theorem sz3 : 3 ≤ sizeLine := sz (by decide)
theorem sz4 : 4 ≤ sizeLine := sz (by decide)
theorem sz5 : 5 ≤ sizeLine := sz (by decide)
theorem sz6 : 6 ≤ sizeLine := sz (by decide)

/-! ### steps -/
theorem ix_eq (n : Nat) (i : Int) : ixM n i = ixN n i := rfl
theorem get_eq {α : Type} (xs : List α) (i : Int) : getM xs i = atI xs i := rfl
theorem cut_eq (xs : List V) (lo hi : Option Int) : cutV xs lo hi = cutM xs lo hi := by
  have e : ∀ n d o, HT.sIx n d o = slIx n d o := fun n d o => by cases o <;> rfl
  unfold cutV cutM
  rw [e, e]
section
variable {α β γ δ : Type} {r : R α} {G G' H : Hp} {O : Own} {K : PySem.W.Frag} {v w : V} {vs : List V} {x : α} {xs : List α} {a : Addr} {Q : VK}
theorem Al.getI {i : Int} (h : Al r G vs xs) (e : getM xs i = some x) : ∃ v, atI vs i = some v ∧ r.rel G v x := by
  unfold getM at e
  rw [← h.len] at e
  obtain ⟨j, e1, e2⟩ := bindS e
  obtain ⟨w, h1, h2⟩ := h.get e2
  refine ⟨w, ?_, h2⟩
  show (ixN vs.length i).bind _ = some w
  rw [← ix_eq, e1]
  exact h1
theorem Al.cut {lo hi : Option Int} (h : Al r G vs xs) : Al r G (cutV vs lo hi) (cutM xs lo hi) := by
  rw [cut_eq]
  unfold cutM
  rw [h.len]
  exact (h.drop _).take _
/-- xs[i] of a frozen list, tuple, list or tuple; of an owned list -/
theorem q_ixL {i : Int} (S : Sub G O H) (h : (rL K r).rel G v xs) (e : getM xs i = some x) (q : ∀ w, r.rel G w x → Q w H) : rIxL K v (.int i) H Q := by
  obtain ⟨p, vs, rfl, hs, ha⟩ := h
  obtain ⟨w, h1, h2⟩ := ha.getI e
  exact ⟨p, vs, i, w, rfl, rfl, sqL_up S.ext hs, h1, q w h2⟩
theorem q_ixT {i : Int} (S : Sub G O H) (h : (rT K r).rel G v xs) (e : getM xs i = some x) (q : ∀ w, r.rel G w x → Q w H) : rIxT K v (.int i) H Q := by
  obtain ⟨p, vs, rfl, hs, ha⟩ := h
  obtain ⟨w, h1, h2⟩ := ha.getI e
  exact ⟨p, vs, i, w, rfl, rfl, sqT_up S.ext hs, h1, q w h2⟩
theorem q_ixO {i : Int} (S : Sub G ((a, .lst vs) :: O) H) (h : Al r G vs xs) (e : getM xs i = some x) (q : ∀ w, r.rel G w x → Q w H) : rIxL K (.ref a) (.int i) H Q := by
  obtain ⟨w, h1, h2⟩ := h.getI e
  exact ⟨a, vs, i, w, rfl, rfl, .inl (.inl S.head), h1, q w h2⟩
/-- len -/
theorem q_lenL {y : V} (S : Sub G O H) (h : (rL K r).rel G v xs) (q : Q (.int (xs.length : Int)) H) : rLenM K [v] H Q := by
  obtain ⟨p, vs, rfl, hs, ha⟩ := h
  refine ⟨p, vs, rfl, .inl (sqL_up S.ext hs), ?_⟩
  rw [ha.len]; exact q
theorem q_lenT (S : Sub G O H) (h : (rT K r).rel G v xs) (q : Q (.int (xs.length : Int)) H) : rLenM K [v] H Q := by
  obtain ⟨p, vs, rfl, hs, ha⟩ := h
  refine ⟨p, vs, rfl, .inr (sqT_up S.ext hs), ?_⟩
  rw [ha.len]; exact q
theorem q_lenO (S : Sub G ((a, .lst vs) :: O) H) (h : Al r G vs xs) (q : Q (.int (xs.length : Int)) H) : rLenM K [V.ref a] H Q := by
  refine ⟨a, vs, rfl, .inl (.inl (.inl S.head)), ?_⟩
  rw [h.len]; exact q
end
/-! ### further steps -/
section
variable {α β γ δ : Type} {r : R α} {G G' H : Hp} {O : Own} {K : PySem.W.Frag} {v w : V} {vs : List V} {x : α} {xs ys : List α} {a : Addr} {Q : VK}
theorem q_mul {i j k : Int} (h : mulM i j = some k) (q : Q (.int k) H) : rI CMul (fun i j => .int (i * j)) (.int i) (.int j) H Q := by
  obtain ⟨c, e⟩ := mulM_some h
  exact ⟨i, j, rfl, rfl, c, by show Q (.int (i * j)) H; rw [e]; exact q⟩
theorem q_fdiv {i j k : Int} (h : fdivM i j = some k) (q : Q (.int k) H) : rI CDivW (fun i j => .int (i / j)) (.int i) (.int j) H Q := by
  obtain ⟨c, e⟩ := fdivM_some h
  exact ⟨i, j, rfl, rfl, c, by show Q (.int (i / j)) H; rw [e]; exact q⟩
theorem q_mod {i j k : Int} (h : modM i j = some k) (q : Q (.int k) H) : rI (fun _ j => 0 < j) (fun i j => .int (i % j)) (.int i) (.int j) H Q := by
  obtain ⟨c, e⟩ := modM_some h
  exact ⟨i, j, rfl, rfl, c, by show Q (.int (i % j)) H; rw [e]; exact q⟩
/-- xs.append(e), the first owned list -/
theorem q_app (S : Sub G ((a, .lst vs) :: O) H) (h : Al r G vs xs) (hv : r.rel G v x) (e : appM xs x = some ys) (q : ∀ H' w, Sub G ((a, .lst w) :: O) H' → Al r G w ys → Q .non H') : rAppend (.ref a) [v] H Q := by
  obtain ⟨c, e⟩ := appM_some e
  refine ⟨a, vs, v, rfl, rfl, S.head, szl (by rw [h.len]; exact c), q _ _ S.wr ?_⟩
  rw [← e]
  exact h.app ⟨hv, True.intro⟩
/-- xs[i] = e -/
theorem q_setL {i : Int} {Q : Hp → Prop} (S : Sub G ((a, .lst vs) :: O) H) (h : Al r G vs xs) (hv : r.rel G v x) (e : setM xs i x = some ys) (q : ∀ H' ws, Sub G ((a, .lst ws) :: O) H' → Al r G ws ys → Q H') : rSetL (.ref a) (.int i) v H Q := by
  obtain ⟨j, e1, e2⟩ := setM_some e
  rw [← h.len] at e1
  refine ⟨a, vs, i, j, rfl, rfl, S.head, e1, q _ _ S.wr ?_⟩
  rw [← e2]
  exact h.set j hv
/-- slices: a new list (frozen at once) -/
theorem q_slL {lo hi : Option Int} (S : Sub G O H) (h : (rL K r).rel G v xs) (q : ∀ w G' H', Ext G G' → Sub G' O H' → (rL K r).rel G' w (cutM xs lo hi) → Q w H') : rSlL K v lo hi H Q := by
  obtain ⟨p, vs, rfl, hs, ha⟩ := h
  refine ⟨p, vs, rfl, sqL_up S.ext hs, fun t ht => q _ _ _ (S.extNew ht (.lst (cutV vs lo hi))) (S.new ht) ⟨t, _, rfl, .inl (.inl upd_same), ?_⟩⟩
  exact (ha.up (S.extNew ht _)).cut
/-- a list display, owned -/
theorem q_lst (S : Sub G O H) (h : Al r G vs xs) (hz : vs.length ≤ 100000) (q : ∀ p H' w, Sub G ((p, .lst w) :: O) H' → Al r G w xs → Q (.ref p) H') : mkLst vs H Q :=
  ⟨sz hz, fun p hp => q p _ vs (S.newOwn hp) h⟩
/-- tuple(xs) of an owned list, of a list, of a list or tuple -/
theorem q_tupO (S : Sub G ((a, .lst vs) :: O) H) (h : Al r G vs xs) (q : ∀ u G' H', Ext G G' → Sub G' ((a, .lst vs) :: O) H' → (rT K r).rel G' u xs → Q u H') :
    rTupOf K [V.ref a] H Q :=
  ⟨a, vs, rfl, .inl ⟨.inl (.inl S.head), fun l hl => q _ _ _ (S.extNew hl _) (S.new hl) ⟨l, vs, rfl, .inl (.inl upd_same), h.up (S.extNew hl _)⟩⟩⟩
theorem q_tupL (S : Sub G O H) (h : (rL K r).rel G v xs) (q : ∀ u G' H', Ext G G' → Sub G' O H' → (rT K r).rel G' u xs → Q u H') :
    rTupOf K [v] H Q := by
  obtain ⟨p, vs, rfl, hs, ha⟩ := h
  exact ⟨p, vs, rfl, .inl ⟨sqL_up S.ext hs, fun l hl => q _ _ _ (S.extNew hl _) (S.new hl) ⟨l, vs, rfl, .inl (.inl upd_same), ha.up (S.extNew hl _)⟩⟩⟩
theorem q_tupT (S : Sub G O H) (h : (rT K r).rel G v xs) (q : Q v H) :
    rTupOf K [v] H Q := by
  obtain ⟨p, vs, rfl, hs, ha⟩ := h
  exact ⟨p, vs, rfl, .inr ⟨sqT_up S.ext hs, q⟩⟩
/-- list(xs): a new list, frozen or owned -/
theorem q_listQ (S : Sub G O H) (h : (rQ K r).rel G v xs) (q : ∀ u G' H', Ext G G' → Sub G' O H' → (rL K r).rel G' u xs → Q u H') :
    rListOf K [v] H Q := by
  obtain ⟨p, vs, rfl, hs, ha⟩ := h
  exact ⟨p, vs, rfl, hs.imp (sqL_up S.ext) (sqT_up S.ext), fun l hl => q _ _ _ (S.extNew hl _) (S.new hl) ⟨l, vs, rfl, .inl (.inl upd_same), ha.up (S.extNew hl _)⟩⟩
theorem q_listQo (S : Sub G O H) (h : (rQ K r).rel G v xs) (q : ∀ p vs H', Sub G ((p, .lst vs) :: O) H' → Al r G vs xs → Q (.ref p) H') :
    rListOf K [v] H Q := by
  obtain ⟨p, vs, rfl, hs, ha⟩ := h
  exact ⟨p, vs, rfl, hs.imp (sqL_up S.ext) (sqT_up S.ext), fun l hl => q l vs _ (S.newOwn hl) ha⟩
theorem rL_Q (h : (rL K r).rel G v xs) : (rQ K r).rel G v xs := let ⟨p, vs, e, hs, ha⟩ := h; ⟨p, vs, e, .inl hs, ha⟩
theorem rT_Q (h : (rT K r).rel G v xs) : (rQ K r).rel G v xs := let ⟨p, vs, e, hs, ha⟩ := h; ⟨p, vs, e, .inr hs, ha⟩
/-- an owned list, frozen -/
theorem rL_frz (S : Sub G ((a, .lst vs) :: O) H) (h : Al r G vs xs) : (rL K r).rel (upd G a (.lst vs)) (.ref a) xs := ⟨a, vs, rfl, .inl (.inl upd_same), h.up S.extFrz⟩
theorem frz_L (S : Sub G ((a, .lst vs) :: O) H) (h : Al r G vs xs) : ∃ G', Ext G G' ∧ Sub G' O H ∧ (rL K r).rel G' (.ref a) xs := ⟨_, S.extFrz, S.frz, rL_frz S h⟩
/-- an owned list as the heap has it now -/
theorem rL_own (S : Sub G ((a, .lst vs) :: O) H) (h : Al r G vs xs) : (rL K r).rel H (.ref a) xs := ⟨a, vs, rfl, .inl (.inl S.head), h.up S.ext⟩

/-! types, for isinstance -/
theorem ty_L (h : (rL K r).rel H v xs) : TyX K H v (.type "list") := by
  obtain ⟨p, vs, rfl, hs, _⟩ := h
  rcases hs with (hs | ⟨o, hs⟩) | ⟨o, its, n, h1, h2, _⟩
  · exact .base (.lst hs)
  · exact .base (.frz hs)
  · exact .kList h1 h2
theorem ty_sqT {p : Addr} (hs : SqT K H p vs) : TyX K H (.ref p) (.type "tuple") := by
  rcases hs with (hs | ⟨o, hs⟩) | ⟨o, its, n, h1, h2, _⟩
  · exact .base (.tup hs)
  · exact .fTuple hs
  · exact .kTuple h1 h2
theorem ty_T (h : (rT K r).rel H v xs) : TyX K H v (.type "tuple") := by
  obtain ⟨p, vs, rfl, hs, _⟩ := h
  exact ty_sqT hs
theorem ty_I (i : Int) : TyX K H (.int i) (.type "int") := .base (.int i)
theorem ty_B (b : Bool) : TyX K H (.bl b) (.type "bool") := .base (.bl b)
theorem ty_S (b : Str) : TyX K H (.str b) (.type "str") := .base (.str b)
theorem ty_N : TyX K H .non (.type "NoneType") := .base .non
theorem q_isi {t c : String} {b : Bool} (h : TyX K H v (.type t)) (e : kitB t c = some b) (q : Q (.bl b) H) : rIsi K [v, .ty c] H Q := ⟨v, .ty c, .type t, .type c, b, rfl, .ty c, h, kit_ty e, q⟩
end

/-! ### data and == -/
structure RD (K : PySem.W.Frag) (α : Type) [DecidableEq α] where
  r : R α
  enc : α → PyData
  dep : Nat
  ok : α → Bool
  lay : ∀ x, ok x = true → (enc x).canLay0 = true
  dpt : ∀ x, (enc x).depth ≤ dep
  dp : ∀ {H : Hp} {v : V} {x : α}, r.rel H v x → Dp K H v (enc x)
  eqv : ∀ x y, PyData.eqv (enc x) (enc y) = decide (x = y)
section
variable {K : PySem.W.Frag} {α β γ : Type} [DecidableEq α] [DecidableEq β] [DecidableEq γ]
def dInt : RD K Int := ⟨rInt, .int, 1, fun _ => true, fun _ _ => rfl, fun _ => by simp [PyData.depth], fun {H v x} h => by cases (show v = .int x from h); exact .int x, fun x y => rfl⟩
def dBool : RD K Bool := ⟨rBool, .bool, 1, fun _ => true, fun _ _ => rfl, fun _ => by simp [PyData.depth], fun {H v x} h => by cases (show v = .bl x from h); exact .bl x, fun x y => by cases x <;> cases y <;> rfl⟩
def dStr : RD K Str := ⟨rStr, .str, 1, PyData.strOk, fun _ h => h, fun _ => by simp [PyData.depth], fun {H v x} h => by cases (show v = .str x from h); exact .str x, fun x y => by
  show (x == y) = decide (x = y)
  by_cases e : x = y
  · subst e; simp
  · rw [decide_eq_false e]; exact beq_eq_false_iff_ne.mpr e⟩
theorem Al.dps {r : R α} {enc : α → PyData} {H : Hp} (hd : ∀ {v : V} {x : α}, r.rel H v x → Dp K H v (enc x)) : ∀ {vs : List V} {xs : List α}, Al r H vs xs → DpAll K H vs (xs.map enc)
  | [], [], _ => .nil
  | _ :: _, _ :: _, h => .cons (hd h.1) (Al.dps hd h.2)
  | [], _ :: _, h => h.elim
  | _ :: _, [], h => h.elim
theorem eqvs {enc : α → PyData} (he : ∀ x y, PyData.eqv (enc x) (enc y) = decide (x = y)) : ∀ xs ys : List α, PyData.eqvAll (xs.map enc) (ys.map enc) = decide (xs = ys)
  | [], [] => rfl
  | [], _ :: _ => rfl
  | _ :: _, [] => rfl
  | x :: xs, y :: ys => by
    show (PyData.eqv (enc x) (enc y) && PyData.eqvAll (xs.map enc) (ys.map enc)) = _
    rw [he, eqvs he xs ys]
    by_cases h1 : x = y
    · subst h1
      by_cases h2 : xs = ys
      · subst h2; simp
      · simp [h2]
    · simp [h1]
theorem lays {enc : α → PyData} {ok : α → Bool} (he : ∀ x, ok x = true → (enc x).canLay0 = true) : ∀ xs : List α, xs.all ok = true → PyData.canLayAll0 (xs.map enc) = true
  | [], _ => rfl
  | x :: xs, h => by
    rw [List.all_cons, Bool.and_eq_true] at h
    show (PyData.canLay0 (enc x) && PyData.canLayAll0 (xs.map enc)) = true
    rw [he x h.1, lays he xs h.2]
    rfl
theorem deps {enc : α → PyData} {n : Nat} (he : ∀ x, (enc x).depth ≤ n) : ∀ xs : List α, PyData.depthAll (xs.map enc) ≤ n
  | [] => by simp [PyData.depthAll]
  | x :: xs => by
    have h1 := he x
    have h2 := deps he xs
    simp only [List.map_cons, PyData.depthAll]
    omega
def dL (d : RD K α) : RD K (List α) := ⟨rL K d.r, fun xs => .list (xs.map d.enc), d.dep + 1, fun xs => xs.all d.ok, fun xs h => lays d.lay xs h, fun xs => by have := deps d.dpt xs; simp only [PyData.depth]; omega,
  fun {H v x} h => by obtain ⟨p, vs, rfl, hs, ha⟩ := h; exact .lst hs (ha.dps d.dp), fun x y => eqvs d.eqv x y⟩
def dT (d : RD K α) : RD K (List α) := ⟨rT K d.r, fun xs => .tuple (xs.map d.enc), d.dep + 1, fun xs => xs.all d.ok, fun xs h => lays d.lay xs h, fun xs => by have := deps d.dpt xs; simp only [PyData.depth]; omega,
  fun {H v x} h => by obtain ⟨p, vs, rfl, hs, ha⟩ := h; exact .tup hs (ha.dps d.dp), fun x y => eqvs d.eqv x y⟩
theorem RD.shaped (d : RD K α) (hd : d.dep ≤ 64) {x : α} (h : d.ok x = true) : SeqAt.shaped (d.enc x) = true := by
  unfold SeqAt.shaped
  rw [d.lay x h, decide_eq_true (Nat.le_trans (d.dpt x) hd)]
  rfl
variable {G H : Hp} {O : Own} {v w : V} {x y : α} {Q : VK}
/-- x == y of data: the reps at the heap as it stands -/
theorem q_eqD (d : RD K α) (hd : d.dep ≤ 64) (h1 : d.r.rel H v x) (h2 : d.r.rel H w y) (o1 : d.ok x = true) (o2 : d.ok y = true) (q : Q (.bl (decide (x = y))) H) : rEqD K v w H Q :=
  ⟨d.enc x, d.enc y, d.dp h1, d.dp h2, d.shaped hd o1, d.shaped hd o2, by rw [d.eqv]; exact q⟩
theorem q_neD (d : RD K α) (hd : d.dep ≤ 64) (h1 : d.r.rel H v x) (h2 : d.r.rel H w y) (o1 : d.ok x = true) (o2 : d.ok y = true) (q : Q (.bl (!decide (x = y))) H) : rNeD K v w H Q :=
  ⟨d.enc x, d.enc y, d.dp h1, d.dp h2, d.shaped hd o1, d.shaped hd o2, by rw [d.eqv]; exact q⟩
theorem okI : ∀ x, (dInt (K := K)).ok x = true := fun _ => rfl
theorem okB : ∀ x, (dBool (K := K)).ok x = true := fun _ => rfl
theorem okL {d : RD K α} (h : ∀ x, d.ok x = true) : ∀ xs, (dL d).ok xs = true := fun xs => List.all_eq_true.mpr fun x _ => h x
theorem okT {d : RD K α} (h : ∀ x, d.ok x = true) : ∀ xs, (dT d).ok xs = true := fun xs => List.all_eq_true.mpr fun x _ => h x
theorem ok_all {ok : α → Bool} (h : ∀ x, ok x = true) (xs : List α) : xs.all ok = true := List.all_eq_true.mpr fun x _ => h x
end

/-! ### loops -/
def PvL {α σ ρ : Type} (f : σ → α → Option (Bf σ ρ)) (xs : List α) (res : Fl σ ρ) (I : σ → L2.St → Hp → Prop) (i : Nat) : L2.St → Hp → Prop := fun σ' H => ∃ s, I s σ' H ∧ forL f (xs.drop i) s = some res
section
variable {α β τ ρ : Type} {J : It} {n : Nat} {GW : Hp → Prop} {Y : Nat → Hp → V → Hp → Prop} {f : τ → α → Option (Bf τ ρ)} {xs : List α} {s0 : τ} {res : Fl τ ρ} {I : τ → L2.St → Hp → Prop} {g : TG} {tb : TS} {D : Ends} {σ : L2.St} {H : Hp}
theorem lp_it (w : Walk J n GW Y) (hn : xs.length = n) (hm : forL f xs s0 = some res) (I : τ → L2.St → Hp → Prop) (h0 : I s0 σ H) (hG : ∀ s σ H, I s σ H → GW H)
    (hs : ∀ (i : Nat) (x : α) (s : τ) (b : Bf τ ρ), xs[i]? = some x → f s x = some b → conL f (xs.drop (i + 1)) b = some res → ∀ v σ H H', I s σ H → Y i H v H' →
      g v σ H' fun σ2 H2 => tb { D with nx := PvL f xs res I (i + 1), ct := PvL f xs res I (i + 1), bk := D.nx } σ2 H2)
    (hd : ∀ s σ H, res = .nx s → I s σ H → D.nx σ H) :
    LpW g tb D σ J H := by
  refine for_it w (PvL f xs res I) ⟨s0, h0, hm⟩ (fun i σ H _ ⟨s, hI, _⟩ => hG s σ H hI) (fun i v σ H H' hi ⟨s, hI, hf⟩ hy => ?_) fun σ H ⟨s, hI, hf⟩ => ?_
  · have hx : xs[i]? = some xs[i] := List.getElem?_eq_getElem (by omega)
    obtain ⟨b, hb, hr⟩ := forL_drop hx hf
    exact hs i _ s b hx hb hr v σ H H' hI hy
  · rw [← hn, List.drop_length] at hf
    exact hd s σ H (Option.some.inj hf).symm hI
variable {K : PySem.W.Frag} {G : Hp} {O : Own} {r : R α} {v : V} {vs : List V} {a : Addr}
theorem Al.at {i : Nat} {x : α} {w : V} (h : Al r G vs xs) (hx : xs[i]? = some x) (hw : vs[i]? = some w) : r.rel G w x := by
  obtain ⟨w', h1, h2⟩ := h.get hx
  rw [hw] at h1; cases h1; exact h2
/-- for x in a frozen list -/
theorem lp_L (S : Sub G O H) (h : (rL K r).rel G v xs) (hm : forL f xs s0 = some res) (I : τ → L2.St → Hp → Prop) (h0 : I s0 σ H) (hG : ∀ s σ H, I s σ H → Ext G H)
    (hs : ∀ (i : Nat) (x : α) (s : τ) (b : Bf τ ρ), f s x = some b → conL f (xs.drop (i + 1)) b = some res → ∀ w σ H, I s σ H → r.rel G w x →
      g w σ H fun σ2 H2 => tb { D with nx := PvL f xs res I (i + 1), ct := PvL f xs res I (i + 1), bk := D.nx } σ2 H2)
    (hd : ∀ s σ H, res = .nx s → I s σ H → D.nx σ H) :
    itL K v H (LpW g tb D σ) := by
  obtain ⟨p, vs, rfl, hq, ha⟩ := h
  refine ⟨p, rfl, ⟨vs, sqL_up S.ext hq⟩, lp_it (walk_list (xs := vs)) ha.len.symm hm I h0 (fun s σ H hI => sqL_up (hG s σ H hI) hq) (fun i x s b hx hb hr w σ H H' hI hY => ?_) hd⟩
  obtain ⟨rfl, hw⟩ := hY
  exact hs i x s b hb hr w σ _ hI (ha.at hx hw)
/-- for x in a frozen tuple -/
theorem lp_T (S : Sub G O H) (h : (rT K r).rel G v xs) (hm : forL f xs s0 = some res) (I : τ → L2.St → Hp → Prop) (h0 : I s0 σ H) (hG : ∀ s σ H, I s σ H → Ext G H)
    (hs : ∀ (i : Nat) (x : α) (s : τ) (b : Bf τ ρ), f s x = some b → conL f (xs.drop (i + 1)) b = some res → ∀ w σ H, I s σ H → r.rel G w x →
      g w σ H fun σ2 H2 => tb { D with nx := PvL f xs res I (i + 1), ct := PvL f xs res I (i + 1), bk := D.nx } σ2 H2)
    (hd : ∀ s σ H, res = .nx s → I s σ H → D.nx σ H) :
    itT K v H (LpW g tb D σ) := by
  obtain ⟨p, vs, rfl, hq, ha⟩ := h
  refine ⟨p, rfl, ⟨vs, sqT_up S.ext hq⟩, lp_it (walk_tup (xs := vs)) ha.len.symm hm I h0 (fun s σ H hI => sqT_up (hG s σ H hI) hq) (fun i x s b hx hb hr w σ H H' hI hY => ?_) hd⟩
  obtain ⟨rfl, hw⟩ := hY
  exact hs i x s b hb hr w σ _ hI (ha.at hx hw)
theorem rng_at {n i k : Nat} (h : (List.range n)[i]? = some k) : k = i := by
  obtain ⟨h1, h2⟩ := List.getElem?_eq_some_iff.mp h
  rw [List.getElem_range] at h2
  exact h2.symm
/-- for i in range(n) -/
theorem lp_R {f : τ → Int → Option (Bf τ ρ)} {xs : List Int} {n : Int} (hx : rngM n = some xs) (hm : forL f xs s0 = some res) (I : τ → L2.St → Hp → Prop) (h0 : I s0 σ H)
    (hs : ∀ (i : Nat) (x : Int) (s : τ) (b : Bf τ ρ), f s x = some b → conL f (xs.drop (i + 1)) b = some res → ∀ σ H, I s σ H →
      g (.int x) σ H fun σ2 H2 => tb { D with nx := PvL f xs res I (i + 1), ct := PvL f xs res I (i + 1), bk := D.nx } σ2 H2)
    (hd : ∀ s σ H, res = .nx s → I s σ H → D.nx σ H) :
    itR [V.int n] H (LpW g tb D σ) := by
  obtain ⟨c, rfl⟩ := rngM_some hx
  refine ⟨n, rfl, c.1, c.2, lp_it walk_range (by simp) hm I h0 (fun _ _ _ _ => True.intro) (fun i x s b hx hb hr w σ H H' hI hY => ?_) hd⟩
  obtain ⟨rfl, hw⟩ := hY
  have e : (0 : Int) + (i : Nat) = x := by
    rw [List.getElem?_map] at hx
    obtain ⟨k, h1, h2⟩ := Option.map_eq_some_iff.mp hx
    have := rng_at h1
    omega
  have e2 : w = .int x := by rw [hw, ← e]
  rw [e2]
  exact hs i x s b hb hr σ _ hI
theorem lp_R2 {f : τ → Int → Option (Bf τ ρ)} {xs : List Int} {lo n : Int} (hx : rng2M lo n = some xs) (hm : forL f xs s0 = some res) (I : τ → L2.St → Hp → Prop) (h0 : I s0 σ H)
    (hs : ∀ (i : Nat) (x : Int) (s : τ) (b : Bf τ ρ), f s x = some b → conL f (xs.drop (i + 1)) b = some res → ∀ σ H, I s σ H →
      g (.int x) σ H fun σ2 H2 => tb { D with nx := PvL f xs res I (i + 1), ct := PvL f xs res I (i + 1), bk := D.nx } σ2 H2)
    (hd : ∀ s σ H, res = .nx s → I s σ H → D.nx σ H) :
    itR2 [V.int lo, V.int n] H (LpW g tb D σ) := by
  obtain ⟨c, rfl⟩ := rng2M_some hx
  refine ⟨lo, n, rfl, c, lp_it walk_range (by simp) hm I h0 (fun _ _ _ _ => True.intro) (fun i x s b hx hb hr w σ H H' hI hY => ?_) hd⟩
  obtain ⟨rfl, hw⟩ := hY
  have e : lo + (i : Nat) = x := by
    rw [List.getElem?_map] at hx
    obtain ⟨k, h1, h2⟩ := Option.map_eq_some_iff.mp hx
    have := rng_at h1
    omega
  have e2 : w = .int x := by rw [hw, ← e]
  rw [e2]
  exact hs i x s b hb hr σ _ hI
/-- for i, x in enumerate(a list or a tuple) -/
theorem walk_enumT {xs : List V} : Walk (IteT K a) xs.length (fun H => SqT K H a xs) (YPair (fun i => some (.int (i : Nat))) (fun i => xs[i]?)) := by
  refine ⟨fun i _ hi q => ⟨xs, xs[i], q, by simp [hi]⟩, fun _ q => ⟨xs, q, rfl⟩, fun i H v H' _ q y => ?_⟩
  obtain ⟨T, x, h1, h2, h3, h4⟩ := y
  exact ⟨T, .int (i : Nat), x, h1, h2, h3, rfl, h4 xs q⟩
theorem lp_Eit {f : τ → Int × α → Option (Bf τ ρ)} {i1 i2 : Nat} {J : It} {vs : List V} (w : Walk J vs.length GW (YPair (fun i => some (.int (i : Nat))) (fun i => vs[i]?))) (ha : Al r G vs xs) (hm : forL f (enumM xs) s0 = some res) (I : τ → L2.St → Hp → Prop) (h0 : I s0 σ H) (hG : ∀ s σ H, I s σ H → GW H)
    (hs : ∀ (i : Nat) (x : α) (s : τ) (b : Bf τ ρ), f s ((i : Int), x) = some b → conL f ((enumM xs).drop (i + 1)) b = some res → ∀ w σ H H', I s σ H → (∀ G O, Sub G O H → Sub G O H') → r.rel G w x →
      tb { D with nx := PvL f (enumM xs) res I (i + 1), ct := PvL f (enumM xs) res I (i + 1), bk := D.nx } ((σ.set i1 (some (.int (i : Int)))).set i2 (some w)) H')
    (hd : ∀ s σ H, res = .nx s → I s σ H → D.nx σ H) :
    LpW (gTup K 2 (gCons (gName i1) (gCons (gName i2) gNil))) tb D σ J H := by
  refine lp_it w (by rw [enumM_length, ha.len]) hm I h0 hG (fun i y s b hx hb hr v σ H H' hI hY => ?_) hd
  rw [enumM_get] at hx
  obtain ⟨x, hx2, rfl⟩ := Option.map_eq_some_iff.mp hx
  obtain ⟨T, k, w, rfl, hT, rfl, hk, hw⟩ := hY
  cases hk
  exact ⟨T, _, rfl, .inl (.inl upd_same), rfl, _, _, rfl, _, _, rfl, rfl, hs i x s b hb hr w σ H _ hI (fun G O S => S.junk hT) (ha.at hx2 hw)⟩
/-- for i, x in enumerate(xs): a frozen list or tuple -/
theorem lp_EQ {f : τ → Int × α → Option (Bf τ ρ)} {i1 i2 : Nat} (S : Sub G O H) (h : (rQ K r).rel G v xs) (hm : forL f (enumM xs) s0 = some res) (I : τ → L2.St → Hp → Prop) (h0 : I s0 σ H) (hG : ∀ s σ H, I s σ H → Ext G H)
    (hs : ∀ (i : Nat) (x : α) (s : τ) (b : Bf τ ρ), f s ((i : Int), x) = some b → conL f ((enumM xs).drop (i + 1)) b = some res → ∀ w σ H H', I s σ H → (∀ G O, Sub G O H → Sub G O H') → r.rel G w x →
      tb { D with nx := PvL f (enumM xs) res I (i + 1), ct := PvL f (enumM xs) res I (i + 1), bk := D.nx } ((σ.set i1 (some (.int (i : Int)))).set i2 (some w)) H')
    (hd : ∀ s σ H, res = .nx s → I s σ H → D.nx σ H) :
    itE K [v] H (LpW (gTup K 2 (gCons (gName i1) (gCons (gName i2) gNil))) tb D σ) := by
  obtain ⟨p, vs, rfl, hq, ha⟩ := h
  refine ⟨p, vs, rfl, ?_⟩
  rcases hq with hq | hq
  · exact .inl ⟨sqL_up S.ext hq, lp_Eit walk_enum ha hm I h0 (fun s σ H hI => sqL_up (hG s σ H hI) hq) hs hd⟩
  · exact .inr ⟨sqT_up S.ext hq, lp_Eit walk_enumT ha hm I h0 (fun s σ H hI => sqT_up (hG s σ H hI) hq) hs hd⟩
end
end Mr

set_option Elab.async false
set_option linter.all false
set_option maxRecDepth 100000
set_option maxHeartbeats 2000000
/-! MirT: tuples of fixed length (printed by wip/gen/tup.py). -/
namespace Mr
open PySem PySem.Spec PyProof.Rows L2
section
variable {α : Type} {β : Type} {K : PySem.W.Frag} {G H : Hp} {O : Own} {v : V} {Q : VK}
def rP2 (K : PySem.W.Frag) (r0 : R α) (r1 : R β) : R (α × β) := ⟨fun G v x => ∃ p v0 v1, v = .ref p ∧ SqT K G p [v0, v1] ∧ r0.rel G v0 x.1 ∧ r1.rel G v1 x.2, fun e ⟨p, v0, v1, hv, hs, h0, h1⟩ => ⟨p, v0, v1, hv, sqT_up e hs, r0.mono e h0, r1.mono e h1⟩⟩
theorem q_tup2 {r0 : R α} {r1 : R β} {v0 v1 : V} {x0 : α} {x1 : β} (S : Sub G O H) (h0 : r0.rel G v0 x0) (h1 : r1.rel G v1 x1) (q : ∀ u G' H', Ext G G' → Sub G' O H' → (rP2 K r0 r1).rel G' u (x0, x1) → Q u H') : mkTup [v0, v1] H Q :=
  ⟨sz (by show 2 ≤ 100000; decide), fun p hp => q _ _ _ (S.extNew hp _) (S.new hp) ⟨p, v0, v1, rfl, .inl (.inl upd_same), r0.mono (S.extNew hp _) h0, r1.mono (S.extNew hp _) h1⟩⟩
theorem q_p2_0 {r0 : R α} {r1 : R β} {y : α × β} (S : Sub G O H) (h : (rP2 K r0 r1).rel G v y) (q : ∀ w, r0.rel G w y.1 → Q w H) : rIxT K v (.int 0) H Q := by
  obtain ⟨p, v0, v1, rfl, hs, h0, h1⟩ := h
  exact ⟨p, _, 0, v0, rfl, rfl, sqT_up S.ext hs, rfl, q v0 h0⟩
theorem q_p2_1 {r0 : R α} {r1 : R β} {y : α × β} (S : Sub G O H) (h : (rP2 K r0 r1).rel G v y) (q : ∀ w, r1.rel G w y.2 → Q w H) : rIxT K v (.int 1) H Q := by
  obtain ⟨p, v0, v1, rfl, hs, h0, h1⟩ := h
  exact ⟨p, _, 1, v1, rfl, rfl, sqT_up S.ext hs, rfl, q v1 h1⟩
theorem q_len2 {r0 : R α} {r1 : R β} {y : α × β} (S : Sub G O H) (h : (rP2 K r0 r1).rel G v y) (q : Q (.int 2) H) : rLenM K [v] H Q := by
  obtain ⟨p, v0, v1, rfl, hs, _⟩ := h
  exact ⟨p, _, rfl, .inr (sqT_up S.ext hs), q⟩
theorem ty_P2 {r0 : R α} {r1 : R β} {y : α × β} (h : (rP2 K r0 r1).rel H v y) : TyX K H v (.type "tuple") := by
  obtain ⟨p, v0, v1, rfl, hs, _⟩ := h
  exact ty_sqT hs
theorem q_gt2 {r0 : R α} {r1 : R β} {y : α × β} {σ : L2.St} {i0 i1 : Nat} {QS : L2.St → Hp → Prop} (S : Sub G O H) (h : (rP2 K r0 r1).rel G v y) (q : ∀ v0 v1, r0.rel G v0 y.1 → r1.rel G v1 y.2 → QS ((σ.set i0 (some v0)).set i1 (some v1)) H) : gTup K 2 (gCons (gName i0) (gCons (gName i1) gNil)) v σ H QS := by
  obtain ⟨p, v0, v1, rfl, hs, h0, h1⟩ := h
  exact ⟨p, _, rfl, sqT_up S.ext hs, rfl, _, _, rfl, _, _, rfl, rfl, q v0 v1 h0 h1⟩
variable [DecidableEq α] [DecidableEq β]
def dP2 (d0 : RD K α) (d1 : RD K β) : RD K (α × β) := ⟨rP2 K d0.r d1.r, fun x => .tuple [d0.enc x.1, d1.enc x.2], d0.dep + d1.dep + 1, fun x => d0.ok x.1 && (d1.ok x.2),
  fun x h => by
    simp only [Bool.and_eq_true] at h
    show (PyData.canLay0 _ && (PyData.canLay0 _ && (true))) = true
    rw [d0.lay _ h.1, d1.lay _ h.2]; rfl,
  fun x => by
    have := d0.dpt x.1
    have := d1.dpt x.2
    simp only [PyData.depth, PyData.depthAll]; omega,
  fun {H v x} h => by
    obtain ⟨p, v0, v1, rfl, hs, h0, h1⟩ := h
    exact .tup hs (.cons (d0.dp h0) (.cons (d1.dp h1) (.nil))),
  fun x y => by
    obtain ⟨a0, a1⟩ := x
    obtain ⟨b0, b1⟩ := y
    show (PyData.eqv _ _ && (PyData.eqv _ _ && (true))) = _
    rw [d0.eqv, d1.eqv]
    simp only [Prod.mk.injEq, Bool.and_true, Bool.decide_and]⟩
theorem okP2 {d0 : RD K α} {d1 : RD K β} (h0 : ∀ x, d0.ok x = true) (h1 : ∀ x, d1.ok x = true) : ∀ x, (dP2 d0 d1).ok x = true := fun x => by
  show (d0.ok x.1 && (d1.ok x.2)) = true
  rw [h0, h1]; rfl
end
section
variable {α : Type} {β : Type} {γ : Type} {K : PySem.W.Frag} {G H : Hp} {O : Own} {v : V} {Q : VK}
def rP3 (K : PySem.W.Frag) (r0 : R α) (r1 : R β) (r2 : R γ) : R (α × β × γ) := ⟨fun G v x => ∃ p v0 v1 v2, v = .ref p ∧ SqT K G p [v0, v1, v2] ∧ r0.rel G v0 x.1 ∧ r1.rel G v1 x.2.1 ∧ r2.rel G v2 x.2.2, fun e ⟨p, v0, v1, v2, hv, hs, h0, h1, h2⟩ => ⟨p, v0, v1, v2, hv, sqT_up e hs, r0.mono e h0, r1.mono e h1, r2.mono e h2⟩⟩
theorem q_tup3 {r0 : R α} {r1 : R β} {r2 : R γ} {v0 v1 v2 : V} {x0 : α} {x1 : β} {x2 : γ} (S : Sub G O H) (h0 : r0.rel G v0 x0) (h1 : r1.rel G v1 x1) (h2 : r2.rel G v2 x2) (q : ∀ u G' H', Ext G G' → Sub G' O H' → (rP3 K r0 r1 r2).rel G' u (x0, x1, x2) → Q u H') : mkTup [v0, v1, v2] H Q :=
  ⟨sz (by show 3 ≤ 100000; decide), fun p hp => q _ _ _ (S.extNew hp _) (S.new hp) ⟨p, v0, v1, v2, rfl, .inl (.inl upd_same), r0.mono (S.extNew hp _) h0, r1.mono (S.extNew hp _) h1, r2.mono (S.extNew hp _) h2⟩⟩
theorem q_p3_0 {r0 : R α} {r1 : R β} {r2 : R γ} {y : α × β × γ} (S : Sub G O H) (h : (rP3 K r0 r1 r2).rel G v y) (q : ∀ w, r0.rel G w y.1 → Q w H) : rIxT K v (.int 0) H Q := by
  obtain ⟨p, v0, v1, v2, rfl, hs, h0, h1, h2⟩ := h
  exact ⟨p, _, 0, v0, rfl, rfl, sqT_up S.ext hs, rfl, q v0 h0⟩
theorem q_p3_1 {r0 : R α} {r1 : R β} {r2 : R γ} {y : α × β × γ} (S : Sub G O H) (h : (rP3 K r0 r1 r2).rel G v y) (q : ∀ w, r1.rel G w y.2.1 → Q w H) : rIxT K v (.int 1) H Q := by
  obtain ⟨p, v0, v1, v2, rfl, hs, h0, h1, h2⟩ := h
  exact ⟨p, _, 1, v1, rfl, rfl, sqT_up S.ext hs, rfl, q v1 h1⟩
theorem q_p3_2 {r0 : R α} {r1 : R β} {r2 : R γ} {y : α × β × γ} (S : Sub G O H) (h : (rP3 K r0 r1 r2).rel G v y) (q : ∀ w, r2.rel G w y.2.2 → Q w H) : rIxT K v (.int 2) H Q := by
  obtain ⟨p, v0, v1, v2, rfl, hs, h0, h1, h2⟩ := h
  exact ⟨p, _, 2, v2, rfl, rfl, sqT_up S.ext hs, rfl, q v2 h2⟩
theorem q_len3 {r0 : R α} {r1 : R β} {r2 : R γ} {y : α × β × γ} (S : Sub G O H) (h : (rP3 K r0 r1 r2).rel G v y) (q : Q (.int 3) H) : rLenM K [v] H Q := by
  obtain ⟨p, v0, v1, v2, rfl, hs, _⟩ := h
  exact ⟨p, _, rfl, .inr (sqT_up S.ext hs), q⟩
theorem ty_P3 {r0 : R α} {r1 : R β} {r2 : R γ} {y : α × β × γ} (h : (rP3 K r0 r1 r2).rel H v y) : TyX K H v (.type "tuple") := by
  obtain ⟨p, v0, v1, v2, rfl, hs, _⟩ := h
  exact ty_sqT hs
theorem q_gt3 {r0 : R α} {r1 : R β} {r2 : R γ} {y : α × β × γ} {σ : L2.St} {i0 i1 i2 : Nat} {QS : L2.St → Hp → Prop} (S : Sub G O H) (h : (rP3 K r0 r1 r2).rel G v y) (q : ∀ v0 v1 v2, r0.rel G v0 y.1 → r1.rel G v1 y.2.1 → r2.rel G v2 y.2.2 → QS (((σ.set i0 (some v0)).set i1 (some v1)).set i2 (some v2)) H) : gTup K 3 (gCons (gName i0) (gCons (gName i1) (gCons (gName i2) gNil))) v σ H QS := by
  obtain ⟨p, v0, v1, v2, rfl, hs, h0, h1, h2⟩ := h
  exact ⟨p, _, rfl, sqT_up S.ext hs, rfl, _, _, rfl, _, _, rfl, _, _, rfl, rfl, q v0 v1 v2 h0 h1 h2⟩
variable [DecidableEq α] [DecidableEq β] [DecidableEq γ]
def dP3 (d0 : RD K α) (d1 : RD K β) (d2 : RD K γ) : RD K (α × β × γ) := ⟨rP3 K d0.r d1.r d2.r, fun x => .tuple [d0.enc x.1, d1.enc x.2.1, d2.enc x.2.2], d0.dep + d1.dep + d2.dep + 1, fun x => d0.ok x.1 && (d1.ok x.2.1 && (d2.ok x.2.2)),
  fun x h => by
    simp only [Bool.and_eq_true] at h
    show (PyData.canLay0 _ && (PyData.canLay0 _ && (PyData.canLay0 _ && (true)))) = true
    rw [d0.lay _ h.1, d1.lay _ h.2.1, d2.lay _ h.2.2]; rfl,
  fun x => by
    have := d0.dpt x.1
    have := d1.dpt x.2.1
    have := d2.dpt x.2.2
    simp only [PyData.depth, PyData.depthAll]; omega,
  fun {H v x} h => by
    obtain ⟨p, v0, v1, v2, rfl, hs, h0, h1, h2⟩ := h
    exact .tup hs (.cons (d0.dp h0) (.cons (d1.dp h1) (.cons (d2.dp h2) (.nil)))),
  fun x y => by
    obtain ⟨a0, a1, a2⟩ := x
    obtain ⟨b0, b1, b2⟩ := y
    show (PyData.eqv _ _ && (PyData.eqv _ _ && (PyData.eqv _ _ && (true)))) = _
    rw [d0.eqv, d1.eqv, d2.eqv]
    simp only [Prod.mk.injEq, Bool.and_true, Bool.decide_and]⟩
theorem okP3 {d0 : RD K α} {d1 : RD K β} {d2 : RD K γ} (h0 : ∀ x, d0.ok x = true) (h1 : ∀ x, d1.ok x = true) (h2 : ∀ x, d2.ok x = true) : ∀ x, (dP3 d0 d1 d2).ok x = true := fun x => by
  show (d0.ok x.1 && (d1.ok x.2.1 && (d2.ok x.2.2))) = true
  rw [h0, h1, h2]; rfl
end
section
variable {α : Type} {β : Type} {γ : Type} {δ : Type} {K : PySem.W.Frag} {G H : Hp} {O : Own} {v : V} {Q : VK}
def rP4 (K : PySem.W.Frag) (r0 : R α) (r1 : R β) (r2 : R γ) (r3 : R δ) : R (α × β × γ × δ) := ⟨fun G v x => ∃ p v0 v1 v2 v3, v = .ref p ∧ SqT K G p [v0, v1, v2, v3] ∧ r0.rel G v0 x.1 ∧ r1.rel G v1 x.2.1 ∧ r2.rel G v2 x.2.2.1 ∧ r3.rel G v3 x.2.2.2, fun e ⟨p, v0, v1, v2, v3, hv, hs, h0, h1, h2, h3⟩ => ⟨p, v0, v1, v2, v3, hv, sqT_up e hs, r0.mono e h0, r1.mono e h1, r2.mono e h2, r3.mono e h3⟩⟩
theorem q_tup4 {r0 : R α} {r1 : R β} {r2 : R γ} {r3 : R δ} {v0 v1 v2 v3 : V} {x0 : α} {x1 : β} {x2 : γ} {x3 : δ} (S : Sub G O H) (h0 : r0.rel G v0 x0) (h1 : r1.rel G v1 x1) (h2 : r2.rel G v2 x2) (h3 : r3.rel G v3 x3) (q : ∀ u G' H', Ext G G' → Sub G' O H' → (rP4 K r0 r1 r2 r3).rel G' u (x0, x1, x2, x3) → Q u H') : mkTup [v0, v1, v2, v3] H Q :=
  ⟨sz (by show 4 ≤ 100000; decide), fun p hp => q _ _ _ (S.extNew hp _) (S.new hp) ⟨p, v0, v1, v2, v3, rfl, .inl (.inl upd_same), r0.mono (S.extNew hp _) h0, r1.mono (S.extNew hp _) h1, r2.mono (S.extNew hp _) h2, r3.mono (S.extNew hp _) h3⟩⟩
theorem q_p4_0 {r0 : R α} {r1 : R β} {r2 : R γ} {r3 : R δ} {y : α × β × γ × δ} (S : Sub G O H) (h : (rP4 K r0 r1 r2 r3).rel G v y) (q : ∀ w, r0.rel G w y.1 → Q w H) : rIxT K v (.int 0) H Q := by
  obtain ⟨p, v0, v1, v2, v3, rfl, hs, h0, h1, h2, h3⟩ := h
  exact ⟨p, _, 0, v0, rfl, rfl, sqT_up S.ext hs, rfl, q v0 h0⟩
theorem q_p4_1 {r0 : R α} {r1 : R β} {r2 : R γ} {r3 : R δ} {y : α × β × γ × δ} (S : Sub G O H) (h : (rP4 K r0 r1 r2 r3).rel G v y) (q : ∀ w, r1.rel G w y.2.1 → Q w H) : rIxT K v (.int 1) H Q := by
  obtain ⟨p, v0, v1, v2, v3, rfl, hs, h0, h1, h2, h3⟩ := h
  exact ⟨p, _, 1, v1, rfl, rfl, sqT_up S.ext hs, rfl, q v1 h1⟩
theorem q_p4_2 {r0 : R α} {r1 : R β} {r2 : R γ} {r3 : R δ} {y : α × β × γ × δ} (S : Sub G O H) (h : (rP4 K r0 r1 r2 r3).rel G v y) (q : ∀ w, r2.rel G w y.2.2.1 → Q w H) : rIxT K v (.int 2) H Q := by
  obtain ⟨p, v0, v1, v2, v3, rfl, hs, h0, h1, h2, h3⟩ := h
  exact ⟨p, _, 2, v2, rfl, rfl, sqT_up S.ext hs, rfl, q v2 h2⟩
theorem q_p4_3 {r0 : R α} {r1 : R β} {r2 : R γ} {r3 : R δ} {y : α × β × γ × δ} (S : Sub G O H) (h : (rP4 K r0 r1 r2 r3).rel G v y) (q : ∀ w, r3.rel G w y.2.2.2 → Q w H) : rIxT K v (.int 3) H Q := by
  obtain ⟨p, v0, v1, v2, v3, rfl, hs, h0, h1, h2, h3⟩ := h
  exact ⟨p, _, 3, v3, rfl, rfl, sqT_up S.ext hs, rfl, q v3 h3⟩
theorem q_len4 {r0 : R α} {r1 : R β} {r2 : R γ} {r3 : R δ} {y : α × β × γ × δ} (S : Sub G O H) (h : (rP4 K r0 r1 r2 r3).rel G v y) (q : Q (.int 4) H) : rLenM K [v] H Q := by
  obtain ⟨p, v0, v1, v2, v3, rfl, hs, _⟩ := h
  exact ⟨p, _, rfl, .inr (sqT_up S.ext hs), q⟩
theorem ty_P4 {r0 : R α} {r1 : R β} {r2 : R γ} {r3 : R δ} {y : α × β × γ × δ} (h : (rP4 K r0 r1 r2 r3).rel H v y) : TyX K H v (.type "tuple") := by
  obtain ⟨p, v0, v1, v2, v3, rfl, hs, _⟩ := h
  exact ty_sqT hs
theorem q_gt4 {r0 : R α} {r1 : R β} {r2 : R γ} {r3 : R δ} {y : α × β × γ × δ} {σ : L2.St} {i0 i1 i2 i3 : Nat} {QS : L2.St → Hp → Prop} (S : Sub G O H) (h : (rP4 K r0 r1 r2 r3).rel G v y) (q : ∀ v0 v1 v2 v3, r0.rel G v0 y.1 → r1.rel G v1 y.2.1 → r2.rel G v2 y.2.2.1 → r3.rel G v3 y.2.2.2 → QS ((((σ.set i0 (some v0)).set i1 (some v1)).set i2 (some v2)).set i3 (some v3)) H) : gTup K 4 (gCons (gName i0) (gCons (gName i1) (gCons (gName i2) (gCons (gName i3) gNil)))) v σ H QS := by
  obtain ⟨p, v0, v1, v2, v3, rfl, hs, h0, h1, h2, h3⟩ := h
  exact ⟨p, _, rfl, sqT_up S.ext hs, rfl, _, _, rfl, _, _, rfl, _, _, rfl, _, _, rfl, rfl, q v0 v1 v2 v3 h0 h1 h2 h3⟩
variable [DecidableEq α] [DecidableEq β] [DecidableEq γ] [DecidableEq δ]
def dP4 (d0 : RD K α) (d1 : RD K β) (d2 : RD K γ) (d3 : RD K δ) : RD K (α × β × γ × δ) := ⟨rP4 K d0.r d1.r d2.r d3.r, fun x => .tuple [d0.enc x.1, d1.enc x.2.1, d2.enc x.2.2.1, d3.enc x.2.2.2], d0.dep + d1.dep + d2.dep + d3.dep + 1, fun x => d0.ok x.1 && (d1.ok x.2.1 && (d2.ok x.2.2.1 && (d3.ok x.2.2.2))),
  fun x h => by
    simp only [Bool.and_eq_true] at h
    show (PyData.canLay0 _ && (PyData.canLay0 _ && (PyData.canLay0 _ && (PyData.canLay0 _ && (true))))) = true
    rw [d0.lay _ h.1, d1.lay _ h.2.1, d2.lay _ h.2.2.1, d3.lay _ h.2.2.2]; rfl,
  fun x => by
    have := d0.dpt x.1
    have := d1.dpt x.2.1
    have := d2.dpt x.2.2.1
    have := d3.dpt x.2.2.2
    simp only [PyData.depth, PyData.depthAll]; omega,
  fun {H v x} h => by
    obtain ⟨p, v0, v1, v2, v3, rfl, hs, h0, h1, h2, h3⟩ := h
    exact .tup hs (.cons (d0.dp h0) (.cons (d1.dp h1) (.cons (d2.dp h2) (.cons (d3.dp h3) (.nil))))),
  fun x y => by
    obtain ⟨a0, a1, a2, a3⟩ := x
    obtain ⟨b0, b1, b2, b3⟩ := y
    show (PyData.eqv _ _ && (PyData.eqv _ _ && (PyData.eqv _ _ && (PyData.eqv _ _ && (true))))) = _
    rw [d0.eqv, d1.eqv, d2.eqv, d3.eqv]
    simp only [Prod.mk.injEq, Bool.and_true, Bool.decide_and]⟩
theorem okP4 {d0 : RD K α} {d1 : RD K β} {d2 : RD K γ} {d3 : RD K δ} (h0 : ∀ x, d0.ok x = true) (h1 : ∀ x, d1.ok x = true) (h2 : ∀ x, d2.ok x = true) (h3 : ∀ x, d3.ok x = true) : ∀ x, (dP4 d0 d1 d2 d3).ok x = true := fun x => by
  show (d0.ok x.1 && (d1.ok x.2.1 && (d2.ok x.2.2.1 && (d3.ok x.2.2.2)))) = true
  rw [h0, h1, h2, h3]; rfl
end
section
variable {α : Type} {β : Type} {γ : Type} {δ : Type} {ε : Type} {K : PySem.W.Frag} {G H : Hp} {O : Own} {v : V} {Q : VK}
def rP5 (K : PySem.W.Frag) (r0 : R α) (r1 : R β) (r2 : R γ) (r3 : R δ) (r4 : R ε) : R (α × β × γ × δ × ε) := ⟨fun G v x => ∃ p v0 v1 v2 v3 v4, v = .ref p ∧ SqT K G p [v0, v1, v2, v3, v4] ∧ r0.rel G v0 x.1 ∧ r1.rel G v1 x.2.1 ∧ r2.rel G v2 x.2.2.1 ∧ r3.rel G v3 x.2.2.2.1 ∧ r4.rel G v4 x.2.2.2.2, fun e ⟨p, v0, v1, v2, v3, v4, hv, hs, h0, h1, h2, h3, h4⟩ => ⟨p, v0, v1, v2, v3, v4, hv, sqT_up e hs, r0.mono e h0, r1.mono e h1, r2.mono e h2, r3.mono e h3, r4.mono e h4⟩⟩
theorem q_tup5 {r0 : R α} {r1 : R β} {r2 : R γ} {r3 : R δ} {r4 : R ε} {v0 v1 v2 v3 v4 : V} {x0 : α} {x1 : β} {x2 : γ} {x3 : δ} {x4 : ε} (S : Sub G O H) (h0 : r0.rel G v0 x0) (h1 : r1.rel G v1 x1) (h2 : r2.rel G v2 x2) (h3 : r3.rel G v3 x3) (h4 : r4.rel G v4 x4) (q : ∀ u G' H', Ext G G' → Sub G' O H' → (rP5 K r0 r1 r2 r3 r4).rel G' u (x0, x1, x2, x3, x4) → Q u H') : mkTup [v0, v1, v2, v3, v4] H Q :=
  ⟨sz (by show 5 ≤ 100000; decide), fun p hp => q _ _ _ (S.extNew hp _) (S.new hp) ⟨p, v0, v1, v2, v3, v4, rfl, .inl (.inl upd_same), r0.mono (S.extNew hp _) h0, r1.mono (S.extNew hp _) h1, r2.mono (S.extNew hp _) h2, r3.mono (S.extNew hp _) h3, r4.mono (S.extNew hp _) h4⟩⟩
theorem q_p5_0 {r0 : R α} {r1 : R β} {r2 : R γ} {r3 : R δ} {r4 : R ε} {y : α × β × γ × δ × ε} (S : Sub G O H) (h : (rP5 K r0 r1 r2 r3 r4).rel G v y) (q : ∀ w, r0.rel G w y.1 → Q w H) : rIxT K v (.int 0) H Q := by
  obtain ⟨p, v0, v1, v2, v3, v4, rfl, hs, h0, h1, h2, h3, h4⟩ := h
  exact ⟨p, _, 0, v0, rfl, rfl, sqT_up S.ext hs, rfl, q v0 h0⟩
theorem q_p5_1 {r0 : R α} {r1 : R β} {r2 : R γ} {r3 : R δ} {r4 : R ε} {y : α × β × γ × δ × ε} (S : Sub G O H) (h : (rP5 K r0 r1 r2 r3 r4).rel G v y) (q : ∀ w, r1.rel G w y.2.1 → Q w H) : rIxT K v (.int 1) H Q := by
  obtain ⟨p, v0, v1, v2, v3, v4, rfl, hs, h0, h1, h2, h3, h4⟩ := h
  exact ⟨p, _, 1, v1, rfl, rfl, sqT_up S.ext hs, rfl, q v1 h1⟩
theorem q_p5_2 {r0 : R α} {r1 : R β} {r2 : R γ} {r3 : R δ} {r4 : R ε} {y : α × β × γ × δ × ε} (S : Sub G O H) (h : (rP5 K r0 r1 r2 r3 r4).rel G v y) (q : ∀ w, r2.rel G w y.2.2.1 → Q w H) : rIxT K v (.int 2) H Q := by
  obtain ⟨p, v0, v1, v2, v3, v4, rfl, hs, h0, h1, h2, h3, h4⟩ := h
  exact ⟨p, _, 2, v2, rfl, rfl, sqT_up S.ext hs, rfl, q v2 h2⟩
theorem q_p5_3 {r0 : R α} {r1 : R β} {r2 : R γ} {r3 : R δ} {r4 : R ε} {y : α × β × γ × δ × ε} (S : Sub G O H) (h : (rP5 K r0 r1 r2 r3 r4).rel G v y) (q : ∀ w, r3.rel G w y.2.2.2.1 → Q w H) : rIxT K v (.int 3) H Q := by
  obtain ⟨p, v0, v1, v2, v3, v4, rfl, hs, h0, h1, h2, h3, h4⟩ := h
  exact ⟨p, _, 3, v3, rfl, rfl, sqT_up S.ext hs, rfl, q v3 h3⟩
theorem q_p5_4 {r0 : R α} {r1 : R β} {r2 : R γ} {r3 : R δ} {r4 : R ε} {y : α × β × γ × δ × ε} (S : Sub G O H) (h : (rP5 K r0 r1 r2 r3 r4).rel G v y) (q : ∀ w, r4.rel G w y.2.2.2.2 → Q w H) : rIxT K v (.int 4) H Q := by
  obtain ⟨p, v0, v1, v2, v3, v4, rfl, hs, h0, h1, h2, h3, h4⟩ := h
  exact ⟨p, _, 4, v4, rfl, rfl, sqT_up S.ext hs, rfl, q v4 h4⟩
theorem q_len5 {r0 : R α} {r1 : R β} {r2 : R γ} {r3 : R δ} {r4 : R ε} {y : α × β × γ × δ × ε} (S : Sub G O H) (h : (rP5 K r0 r1 r2 r3 r4).rel G v y) (q : Q (.int 5) H) : rLenM K [v] H Q := by
  obtain ⟨p, v0, v1, v2, v3, v4, rfl, hs, _⟩ := h
  exact ⟨p, _, rfl, .inr (sqT_up S.ext hs), q⟩
theorem ty_P5 {r0 : R α} {r1 : R β} {r2 : R γ} {r3 : R δ} {r4 : R ε} {y : α × β × γ × δ × ε} (h : (rP5 K r0 r1 r2 r3 r4).rel H v y) : TyX K H v (.type "tuple") := by
  obtain ⟨p, v0, v1, v2, v3, v4, rfl, hs, _⟩ := h
  exact ty_sqT hs
theorem q_gt5 {r0 : R α} {r1 : R β} {r2 : R γ} {r3 : R δ} {r4 : R ε} {y : α × β × γ × δ × ε} {σ : L2.St} {i0 i1 i2 i3 i4 : Nat} {QS : L2.St → Hp → Prop} (S : Sub G O H) (h : (rP5 K r0 r1 r2 r3 r4).rel G v y) (q : ∀ v0 v1 v2 v3 v4, r0.rel G v0 y.1 → r1.rel G v1 y.2.1 → r2.rel G v2 y.2.2.1 → r3.rel G v3 y.2.2.2.1 → r4.rel G v4 y.2.2.2.2 → QS (((((σ.set i0 (some v0)).set i1 (some v1)).set i2 (some v2)).set i3 (some v3)).set i4 (some v4)) H) : gTup K 5 (gCons (gName i0) (gCons (gName i1) (gCons (gName i2) (gCons (gName i3) (gCons (gName i4) gNil))))) v σ H QS := by
  obtain ⟨p, v0, v1, v2, v3, v4, rfl, hs, h0, h1, h2, h3, h4⟩ := h
  exact ⟨p, _, rfl, sqT_up S.ext hs, rfl, _, _, rfl, _, _, rfl, _, _, rfl, _, _, rfl, _, _, rfl, rfl, q v0 v1 v2 v3 v4 h0 h1 h2 h3 h4⟩
variable [DecidableEq α] [DecidableEq β] [DecidableEq γ] [DecidableEq δ] [DecidableEq ε]
def dP5 (d0 : RD K α) (d1 : RD K β) (d2 : RD K γ) (d3 : RD K δ) (d4 : RD K ε) : RD K (α × β × γ × δ × ε) := ⟨rP5 K d0.r d1.r d2.r d3.r d4.r, fun x => .tuple [d0.enc x.1, d1.enc x.2.1, d2.enc x.2.2.1, d3.enc x.2.2.2.1, d4.enc x.2.2.2.2], d0.dep + d1.dep + d2.dep + d3.dep + d4.dep + 1, fun x => d0.ok x.1 && (d1.ok x.2.1 && (d2.ok x.2.2.1 && (d3.ok x.2.2.2.1 && (d4.ok x.2.2.2.2)))),
  fun x h => by
    simp only [Bool.and_eq_true] at h
    show (PyData.canLay0 _ && (PyData.canLay0 _ && (PyData.canLay0 _ && (PyData.canLay0 _ && (PyData.canLay0 _ && (true)))))) = true
    rw [d0.lay _ h.1, d1.lay _ h.2.1, d2.lay _ h.2.2.1, d3.lay _ h.2.2.2.1, d4.lay _ h.2.2.2.2]; rfl,
  fun x => by
    have := d0.dpt x.1
    have := d1.dpt x.2.1
    have := d2.dpt x.2.2.1
    have := d3.dpt x.2.2.2.1
    have := d4.dpt x.2.2.2.2
    simp only [PyData.depth, PyData.depthAll]; omega,
  fun {H v x} h => by
    obtain ⟨p, v0, v1, v2, v3, v4, rfl, hs, h0, h1, h2, h3, h4⟩ := h
    exact .tup hs (.cons (d0.dp h0) (.cons (d1.dp h1) (.cons (d2.dp h2) (.cons (d3.dp h3) (.cons (d4.dp h4) (.nil)))))),
  fun x y => by
    obtain ⟨a0, a1, a2, a3, a4⟩ := x
    obtain ⟨b0, b1, b2, b3, b4⟩ := y
    show (PyData.eqv _ _ && (PyData.eqv _ _ && (PyData.eqv _ _ && (PyData.eqv _ _ && (PyData.eqv _ _ && (true)))))) = _
    rw [d0.eqv, d1.eqv, d2.eqv, d3.eqv, d4.eqv]
    simp only [Prod.mk.injEq, Bool.and_true, Bool.decide_and]⟩
theorem okP5 {d0 : RD K α} {d1 : RD K β} {d2 : RD K γ} {d3 : RD K δ} {d4 : RD K ε} (h0 : ∀ x, d0.ok x = true) (h1 : ∀ x, d1.ok x = true) (h2 : ∀ x, d2.ok x = true) (h3 : ∀ x, d3.ok x = true) (h4 : ∀ x, d4.ok x = true) : ∀ x, (dP5 d0 d1 d2 d3 d4).ok x = true := fun x => by
  show (d0.ok x.1 && (d1.ok x.2.1 && (d2.ok x.2.2.1 && (d3.ok x.2.2.2.1 && (d4.ok x.2.2.2.2))))) = true
  rw [h0, h1, h2, h3, h4]; rfl
end
section
variable {α : Type} {β : Type} {γ : Type} {δ : Type} {ε : Type} {ζ : Type} {K : PySem.W.Frag} {G H : Hp} {O : Own} {v : V} {Q : VK}
def rP6 (K : PySem.W.Frag) (r0 : R α) (r1 : R β) (r2 : R γ) (r3 : R δ) (r4 : R ε) (r5 : R ζ) : R (α × β × γ × δ × ε × ζ) := ⟨fun G v x => ∃ p v0 v1 v2 v3 v4 v5, v = .ref p ∧ SqT K G p [v0, v1, v2, v3, v4, v5] ∧ r0.rel G v0 x.1 ∧ r1.rel G v1 x.2.1 ∧ r2.rel G v2 x.2.2.1 ∧ r3.rel G v3 x.2.2.2.1 ∧ r4.rel G v4 x.2.2.2.2.1 ∧ r5.rel G v5 x.2.2.2.2.2, fun e ⟨p, v0, v1, v2, v3, v4, v5, hv, hs, h0, h1, h2, h3, h4, h5⟩ => ⟨p, v0, v1, v2, v3, v4, v5, hv, sqT_up e hs, r0.mono e h0, r1.mono e h1, r2.mono e h2, r3.mono e h3, r4.mono e h4, r5.mono e h5⟩⟩
theorem q_tup6 {r0 : R α} {r1 : R β} {r2 : R γ} {r3 : R δ} {r4 : R ε} {r5 : R ζ} {v0 v1 v2 v3 v4 v5 : V} {x0 : α} {x1 : β} {x2 : γ} {x3 : δ} {x4 : ε} {x5 : ζ} (S : Sub G O H) (h0 : r0.rel G v0 x0) (h1 : r1.rel G v1 x1) (h2 : r2.rel G v2 x2) (h3 : r3.rel G v3 x3) (h4 : r4.rel G v4 x4) (h5 : r5.rel G v5 x5) (q : ∀ u G' H', Ext G G' → Sub G' O H' → (rP6 K r0 r1 r2 r3 r4 r5).rel G' u (x0, x1, x2, x3, x4, x5) → Q u H') : mkTup [v0, v1, v2, v3, v4, v5] H Q :=
  ⟨sz (by show 6 ≤ 100000; decide), fun p hp => q _ _ _ (S.extNew hp _) (S.new hp) ⟨p, v0, v1, v2, v3, v4, v5, rfl, .inl (.inl upd_same), r0.mono (S.extNew hp _) h0, r1.mono (S.extNew hp _) h1, r2.mono (S.extNew hp _) h2, r3.mono (S.extNew hp _) h3, r4.mono (S.extNew hp _) h4, r5.mono (S.extNew hp _) h5⟩⟩
theorem q_p6_0 {r0 : R α} {r1 : R β} {r2 : R γ} {r3 : R δ} {r4 : R ε} {r5 : R ζ} {y : α × β × γ × δ × ε × ζ} (S : Sub G O H) (h : (rP6 K r0 r1 r2 r3 r4 r5).rel G v y) (q : ∀ w, r0.rel G w y.1 → Q w H) : rIxT K v (.int 0) H Q := by
  obtain ⟨p, v0, v1, v2, v3, v4, v5, rfl, hs, h0, h1, h2, h3, h4, h5⟩ := h
  exact ⟨p, _, 0, v0, rfl, rfl, sqT_up S.ext hs, rfl, q v0 h0⟩
theorem q_p6_1 {r0 : R α} {r1 : R β} {r2 : R γ} {r3 : R δ} {r4 : R ε} {r5 : R ζ} {y : α × β × γ × δ × ε × ζ} (S : Sub G O H) (h : (rP6 K r0 r1 r2 r3 r4 r5).rel G v y) (q : ∀ w, r1.rel G w y.2.1 → Q w H) : rIxT K v (.int 1) H Q := by
  obtain ⟨p, v0, v1, v2, v3, v4, v5, rfl, hs, h0, h1, h2, h3, h4, h5⟩ := h
  exact ⟨p, _, 1, v1, rfl, rfl, sqT_up S.ext hs, rfl, q v1 h1⟩
theorem q_p6_2 {r0 : R α} {r1 : R β} {r2 : R γ} {r3 : R δ} {r4 : R ε} {r5 : R ζ} {y : α × β × γ × δ × ε × ζ} (S : Sub G O H) (h : (rP6 K r0 r1 r2 r3 r4 r5).rel G v y) (q : ∀ w, r2.rel G w y.2.2.1 → Q w H) : rIxT K v (.int 2) H Q := by
  obtain ⟨p, v0, v1, v2, v3, v4, v5, rfl, hs, h0, h1, h2, h3, h4, h5⟩ := h
  exact ⟨p, _, 2, v2, rfl, rfl, sqT_up S.ext hs, rfl, q v2 h2⟩
theorem q_p6_3 {r0 : R α} {r1 : R β} {r2 : R γ} {r3 : R δ} {r4 : R ε} {r5 : R ζ} {y : α × β × γ × δ × ε × ζ} (S : Sub G O H) (h : (rP6 K r0 r1 r2 r3 r4 r5).rel G v y) (q : ∀ w, r3.rel G w y.2.2.2.1 → Q w H) : rIxT K v (.int 3) H Q := by
  obtain ⟨p, v0, v1, v2, v3, v4, v5, rfl, hs, h0, h1, h2, h3, h4, h5⟩ := h
  exact ⟨p, _, 3, v3, rfl, rfl, sqT_up S.ext hs, rfl, q v3 h3⟩
theorem q_p6_4 {r0 : R α} {r1 : R β} {r2 : R γ} {r3 : R δ} {r4 : R ε} {r5 : R ζ} {y : α × β × γ × δ × ε × ζ} (S : Sub G O H) (h : (rP6 K r0 r1 r2 r3 r4 r5).rel G v y) (q : ∀ w, r4.rel G w y.2.2.2.2.1 → Q w H) : rIxT K v (.int 4) H Q := by
  obtain ⟨p, v0, v1, v2, v3, v4, v5, rfl, hs, h0, h1, h2, h3, h4, h5⟩ := h
  exact ⟨p, _, 4, v4, rfl, rfl, sqT_up S.ext hs, rfl, q v4 h4⟩
theorem q_p6_5 {r0 : R α} {r1 : R β} {r2 : R γ} {r3 : R δ} {r4 : R ε} {r5 : R ζ} {y : α × β × γ × δ × ε × ζ} (S : Sub G O H) (h : (rP6 K r0 r1 r2 r3 r4 r5).rel G v y) (q : ∀ w, r5.rel G w y.2.2.2.2.2 → Q w H) : rIxT K v (.int 5) H Q := by
  obtain ⟨p, v0, v1, v2, v3, v4, v5, rfl, hs, h0, h1, h2, h3, h4, h5⟩ := h
  exact ⟨p, _, 5, v5, rfl, rfl, sqT_up S.ext hs, rfl, q v5 h5⟩
theorem q_len6 {r0 : R α} {r1 : R β} {r2 : R γ} {r3 : R δ} {r4 : R ε} {r5 : R ζ} {y : α × β × γ × δ × ε × ζ} (S : Sub G O H) (h : (rP6 K r0 r1 r2 r3 r4 r5).rel G v y) (q : Q (.int 6) H) : rLenM K [v] H Q := by
  obtain ⟨p, v0, v1, v2, v3, v4, v5, rfl, hs, _⟩ := h
  exact ⟨p, _, rfl, .inr (sqT_up S.ext hs), q⟩
theorem ty_P6 {r0 : R α} {r1 : R β} {r2 : R γ} {r3 : R δ} {r4 : R ε} {r5 : R ζ} {y : α × β × γ × δ × ε × ζ} (h : (rP6 K r0 r1 r2 r3 r4 r5).rel H v y) : TyX K H v (.type "tuple") := by
  obtain ⟨p, v0, v1, v2, v3, v4, v5, rfl, hs, _⟩ := h
  exact ty_sqT hs
theorem q_gt6 {r0 : R α} {r1 : R β} {r2 : R γ} {r3 : R δ} {r4 : R ε} {r5 : R ζ} {y : α × β × γ × δ × ε × ζ} {σ : L2.St} {i0 i1 i2 i3 i4 i5 : Nat} {QS : L2.St → Hp → Prop} (S : Sub G O H) (h : (rP6 K r0 r1 r2 r3 r4 r5).rel G v y) (q : ∀ v0 v1 v2 v3 v4 v5, r0.rel G v0 y.1 → r1.rel G v1 y.2.1 → r2.rel G v2 y.2.2.1 → r3.rel G v3 y.2.2.2.1 → r4.rel G v4 y.2.2.2.2.1 → r5.rel G v5 y.2.2.2.2.2 → QS ((((((σ.set i0 (some v0)).set i1 (some v1)).set i2 (some v2)).set i3 (some v3)).set i4 (some v4)).set i5 (some v5)) H) : gTup K 6 (gCons (gName i0) (gCons (gName i1) (gCons (gName i2) (gCons (gName i3) (gCons (gName i4) (gCons (gName i5) gNil)))))) v σ H QS := by
  obtain ⟨p, v0, v1, v2, v3, v4, v5, rfl, hs, h0, h1, h2, h3, h4, h5⟩ := h
  exact ⟨p, _, rfl, sqT_up S.ext hs, rfl, _, _, rfl, _, _, rfl, _, _, rfl, _, _, rfl, _, _, rfl, _, _, rfl, rfl, q v0 v1 v2 v3 v4 v5 h0 h1 h2 h3 h4 h5⟩
variable [DecidableEq α] [DecidableEq β] [DecidableEq γ] [DecidableEq δ] [DecidableEq ε] [DecidableEq ζ]
def dP6 (d0 : RD K α) (d1 : RD K β) (d2 : RD K γ) (d3 : RD K δ) (d4 : RD K ε) (d5 : RD K ζ) : RD K (α × β × γ × δ × ε × ζ) := ⟨rP6 K d0.r d1.r d2.r d3.r d4.r d5.r, fun x => .tuple [d0.enc x.1, d1.enc x.2.1, d2.enc x.2.2.1, d3.enc x.2.2.2.1, d4.enc x.2.2.2.2.1, d5.enc x.2.2.2.2.2], d0.dep + d1.dep + d2.dep + d3.dep + d4.dep + d5.dep + 1, fun x => d0.ok x.1 && (d1.ok x.2.1 && (d2.ok x.2.2.1 && (d3.ok x.2.2.2.1 && (d4.ok x.2.2.2.2.1 && (d5.ok x.2.2.2.2.2))))),
  fun x h => by
    simp only [Bool.and_eq_true] at h
    show (PyData.canLay0 _ && (PyData.canLay0 _ && (PyData.canLay0 _ && (PyData.canLay0 _ && (PyData.canLay0 _ && (PyData.canLay0 _ && (true))))))) = true
    rw [d0.lay _ h.1, d1.lay _ h.2.1, d2.lay _ h.2.2.1, d3.lay _ h.2.2.2.1, d4.lay _ h.2.2.2.2.1, d5.lay _ h.2.2.2.2.2]; rfl,
  fun x => by
    have := d0.dpt x.1
    have := d1.dpt x.2.1
    have := d2.dpt x.2.2.1
    have := d3.dpt x.2.2.2.1
    have := d4.dpt x.2.2.2.2.1
    have := d5.dpt x.2.2.2.2.2
    simp only [PyData.depth, PyData.depthAll]; omega,
  fun {H v x} h => by
    obtain ⟨p, v0, v1, v2, v3, v4, v5, rfl, hs, h0, h1, h2, h3, h4, h5⟩ := h
    exact .tup hs (.cons (d0.dp h0) (.cons (d1.dp h1) (.cons (d2.dp h2) (.cons (d3.dp h3) (.cons (d4.dp h4) (.cons (d5.dp h5) (.nil))))))),
  fun x y => by
    obtain ⟨a0, a1, a2, a3, a4, a5⟩ := x
    obtain ⟨b0, b1, b2, b3, b4, b5⟩ := y
    show (PyData.eqv _ _ && (PyData.eqv _ _ && (PyData.eqv _ _ && (PyData.eqv _ _ && (PyData.eqv _ _ && (PyData.eqv _ _ && (true))))))) = _
    rw [d0.eqv, d1.eqv, d2.eqv, d3.eqv, d4.eqv, d5.eqv]
    simp only [Prod.mk.injEq, Bool.and_true, Bool.decide_and]⟩
theorem okP6 {d0 : RD K α} {d1 : RD K β} {d2 : RD K γ} {d3 : RD K δ} {d4 : RD K ε} {d5 : RD K ζ} (h0 : ∀ x, d0.ok x = true) (h1 : ∀ x, d1.ok x = true) (h2 : ∀ x, d2.ok x = true) (h3 : ∀ x, d3.ok x = true) (h4 : ∀ x, d4.ok x = true) (h5 : ∀ x, d5.ok x = true) : ∀ x, (dP6 d0 d1 d2 d3 d4 d5).ok x = true := fun x => by
  show (d0.ok x.1 && (d1.ok x.2.1 && (d2.ok x.2.2.1 && (d3.ok x.2.2.2.1 && (d4.ok x.2.2.2.2.1 && (d5.ok x.2.2.2.2.2)))))) = true
  rw [h0, h1, h2, h3, h4, h5]; rfl
end
end Mr

set_option Elab.async false
set_option linter.all false
set_option maxRecDepth 100000
set_option maxHeartbeats 2000000
/-! Mir2: lists that stand by themselves, None, one text or data, truth, +, comprehensions, stars. -/
namespace Mr
open PySem PySem.Spec PyProof.Rows L2
section
variable {α β : Type} {r : R α} {G G' H : Hp} {O : Own} {K : PySem.W.Frag} {v w : V} {vs ws : List V} {x : α} {xs ys zs : List α} {a : Addr} {Q : VK}
/-- a list that the program made -/
def rM (r : R α) : R (List α) := ⟨fun G v xs => ∃ p vs, v = .ref p ∧ G p = some (.lst vs) ∧ Al r G vs xs, fun e ⟨p, vs, h1, h2, h3⟩ => ⟨p, vs, h1, e _ _ h2, h3.up e⟩⟩
theorem rM_L (h : (rM r).rel G v xs) : (rL K r).rel G v xs := let ⟨p, vs, e, h, ha⟩ := h; ⟨p, vs, e, .inl (.inl h), ha⟩
theorem rM_Q (h : (rM r).rel G v xs) : (rQ K r).rel G v xs := rL_Q (rM_L h)
theorem frz_M (S : Sub G ((a, .lst vs) :: O) H) (h : Al r G vs xs) : ∃ G', Ext G G' ∧ Sub G' O H ∧ (rM r).rel G' (.ref a) xs :=
  ⟨_, S.extFrz, S.frz, a, vs, rfl, upd_same, h.up S.extFrz⟩
theorem rM_own (S : Sub G ((a, .lst vs) :: O) H) (h : Al r G vs xs) : (rM r).rel H (.ref a) xs := ⟨a, vs, rfl, S.head, h.up S.ext⟩
theorem q_slM {lo hi : Option Int} (S : Sub G O H) (h : (rL K r).rel G v xs) (q : ∀ w G' H', Ext G G' → Sub G' O H' → (rM r).rel G' w (cutM xs lo hi) → Q w H') : rSlL K v lo hi H Q := by
  obtain ⟨p, vs, rfl, hs, ha⟩ := h
  refine ⟨p, vs, rfl, sqL_up S.ext hs, fun t ht => q _ _ _ (S.extNew ht (.lst (cutV vs lo hi))) (S.new ht) ⟨t, _, rfl, upd_same, ?_⟩⟩
  exact (ha.up (S.extNew ht _)).cut
theorem q_listM (S : Sub G O H) (h : (rQ K r).rel G v xs) (q : ∀ u G' H', Ext G G' → Sub G' O H' → (rM r).rel G' u xs → Q u H') : rListOf K [v] H Q := by
  obtain ⟨p, vs, rfl, hs, ha⟩ := h
  exact ⟨p, vs, rfl, hs.imp (sqL_up S.ext) (sqT_up S.ext), fun l hl => q _ _ _ (S.extNew hl _) (S.new hl) ⟨l, vs, rfl, upd_same, ha.up (S.extNew hl _)⟩⟩
theorem q_listO {vs : List V} {a : Addr} (S : Sub G ((a, .lst vs) :: O) H) (h : Al r G vs xs) (q : ∀ u G' H', Ext G G' → Sub G' ((a, .lst vs) :: O) H' → (rM r).rel G' u xs → Q u H') : rListOf K [V.ref a] H Q :=
  ⟨a, vs, rfl, .inl (.inl (.inl S.head)), fun l hl => q _ _ _ (S.extNew hl _) (S.new hl) ⟨l, vs, rfl, upd_same, h.up (S.extNew hl _)⟩⟩
/-- a list as it stands now: its items by the frozen part -/
def LsAt (r : R α) (G H : Hp) (v : V) (xs : List α) : Prop := ∃ p vs, v = .ref p ∧ H p = some (.lst vs) ∧ Al r G vs xs
theorem ls_M (S : Sub G O H) (h : (rM r).rel G v xs) : LsAt r G H v xs := let ⟨p, vs, e, h, ha⟩ := h; ⟨p, vs, e, S.ext _ _ h, ha⟩
theorem ls_O (S : Sub G ((a, .lst vs) :: O) H) (h : Al r G vs xs) : LsAt r G H (.ref a) xs := ⟨a, vs, rfl, S.head, h⟩
theorem q_cat (S : Sub G O H) (h1 : LsAt r G H v xs) (h2 : LsAt r G H w ys) (e : catM xs ys = some zs) (q : ∀ u G' H', Ext G G' → Sub G' O H' → (rM r).rel G' u zs → Q u H') : rCat v w H Q := by
  obtain ⟨p, vs, rfl, h3, ha⟩ := h1
  obtain ⟨p2, ws, rfl, h4, hb⟩ := h2
  obtain ⟨c, rfl⟩ := catM_some e
  refine ⟨p, p2, vs, ws, rfl, rfl, h3, h4, sz (by rw [ha.len, hb.len]; exact c), fun t ht => q _ _ _ (S.extNew ht _) (S.new ht) ⟨t, _, rfl, upd_same, ?_⟩⟩
  exact (ha.app hb).up (S.extNew ht _)
/-- a tuple display, all places alike -/
theorem q_tupH (S : Sub G O H) (h : Al r G vs xs) (e : szM xs = some ys) (q : ∀ u G' H', Ext G G' → Sub G' O H' → (rT K r).rel G' u ys → Q u H') : mkTup vs H Q := by
  obtain ⟨c, rfl⟩ := szM_some e
  exact ⟨sz (by rw [h.len]; exact c), fun p hp => q _ _ _ (S.extNew hp _) (S.new hp) ⟨p, vs, rfl, .inl (.inl upd_same), h.up (S.extNew hp _)⟩⟩
theorem Al.snoc (h : Al r G vs xs) (hv : r.rel G v x) : Al r G (vs ++ [v]) (xs ++ [x]) := h.app ⟨hv, True.intro⟩
def mkStar (K : PySem.W.Frag) (t : TA) (σ : L2.St) (QA : List V → Hp → Prop) (x : V) (H : Hp) : Prop := ∃ p xs, x = V.ref p ∧ (SqT K H p xs ∨ SqL K H p xs) ∧ t σ H fun ys H2 => QA (xs ++ ys) H2
theorem gStar {te : TE} {t : TA} {σ : L2.St} {QA : List V → Hp → Prop} (h : te σ H (mkStar K t σ QA)) : StX.tStar K te t σ H QA := h
theorem q_starT {t : TA} {σ : L2.St} {QA : List V → Hp → Prop} (S : Sub G O H) (h : (rT K r).rel G v xs) (q : ∀ vs, Al r G vs xs → t σ H fun ys H2 => QA (vs ++ ys) H2) : mkStar K t σ QA v H := by
  obtain ⟨p, vs, rfl, hs, ha⟩ := h
  exact ⟨p, vs, rfl, .inl (sqT_up S.ext hs), q vs ha⟩

/-! ### None or data; one text or data -/
def rO (r : R α) : R (Option α) := ⟨fun G v x => match x with
  | none => v = .non
  | some y => v ≠ .non ∧ r.rel G v y, fun {G G' v x} e h => by
    cases x with
    | none => exact h
    | some y => exact ⟨h.1, r.mono e h.2⟩⟩
theorem rO_none : (rO r).rel G .non none := rfl
theorem rO_some (hn : v ≠ .non) (h : r.rel G v x) : (rO r).rel G v (some x) := ⟨hn, h⟩
theorem rO_get {o : Option α} (h : (rO r).rel G v o) (e : o = some x) : r.rel G v x := by subst e; exact h.2
theorem nn_T (h : (rT K r).rel G v xs) : v ≠ .non := by obtain ⟨p, vs, rfl, _⟩ := h; intro z; cases z
theorem nn_M (h : (rM r).rel G v xs) : v ≠ .non := by obtain ⟨p, vs, rfl, _⟩ := h; intro z; cases z
def rIsNon : R2 := fun x y H Q => y = .non ∧ Q (.bl (decide (x = .non))) H
def rIsNotNon : R2 := fun x y H Q => y = .non ∧ Q (.bl (!decide (x = .non))) H
theorem op_isNon {X : Cx} : OpR X (compareOp .Is) rIsNon := op_isN
theorem op_isNotNon {X : Cx} : OpR X (compareOp .IsNot) rIsNotNon := op_notN
theorem rO_dec {o : Option α} (h : (rO r).rel G v o) : decide (v = .non) = o.isNone := by
  cases o with
  | none => rw [show v = .non from h]; rfl
  | some y => rw [decide_eq_false h.1]; rfl
theorem q_isNon {o : Option α} (h : (rO r).rel G v o) (q : Q (.bl o.isNone) H) : rIsNon v .non H Q := ⟨rfl, by rw [rO_dec h]; exact q⟩
theorem q_isNotNon {o : Option α} (h : (rO r).rel G v o) (q : Q (.bl (!o.isNone)) H) : rIsNotNon v .non H Q := ⟨rfl, by rw [rO_dec h]; exact q⟩
/-- the text c, or data -/
def rA (c : Str) (r : R α) : R (Option α) := ⟨fun G v x => match x with
  | none => v = .str c
  | some y => r.rel G v y, fun {G G' v x} e h => by
    cases x with
    | none => exact h
    | some y => exact r.mono e h⟩
theorem rA_none {c : Str} : (rA c r).rel G (.str c) none := rfl
theorem rA_some {c : Str} (h : r.rel G v x) : (rA c r).rel G v (some x) := h
theorem rA_get {c : Str} {o : Option α} (h : (rA c r).rel G v o) (e : o = some x) : r.rel G v x := by subst e; exact h
end
section
variable {K : PySem.W.Frag} {α : Type} [DecidableEq α]
def dM (d : RD K α) : RD K (List α) := ⟨rM d.r, fun xs => .list (xs.map d.enc), d.dep + 1, fun xs => xs.all d.ok, fun xs h => lays d.lay xs h, fun xs => by have := deps d.dpt xs; simp only [PyData.depth]; omega,
  fun {H v x} h => by obtain ⟨p, vs, rfl, hs, ha⟩ := h; exact .lst (.inl (.inl hs)) (ha.dps d.dp), fun x y => eqvs d.eqv x y⟩
theorem okM {d : RD K α} (h : ∀ x, d.ok x = true) : ∀ xs, (dM d).ok xs = true := fun xs => List.all_eq_true.mpr fun x _ => h x
def isTupD : PyData → Bool
  | .tuple _ => true
  | _ => false
def dA (c : Str) (hc : PyData.strOk c = true) (d : RD K α) (ht : ∀ x, isTupD (d.enc x) = true) : RD K (Option α) := ⟨rA c d.r, fun x => match x with
    | none => .str c
    | some y => d.enc y, d.dep + 1, fun x => match x with
    | none => true
    | some y => d.ok y,
  fun x h => by
    cases x with
    | none => exact hc
    | some y => exact d.lay y h,
  fun x => by
    cases x with
    | none => simp [PyData.depth]
    | some y => exact Nat.le_succ_of_le (d.dpt y),
  fun {H v x} h => by
    cases x with
    | none => cases (show v = .str c from h); exact .str c
    | some y => exact d.dp h,
  fun x y => by
    cases x with
    | none =>
      cases y with
      | none =>
        show (c == c) = decide (none = none)
        simp
      | some y =>
        have h := ht y
        show PyData.eqv (.str c) (d.enc y) = _
        cases e : d.enc y with
        | tuple zs => rfl
        | _ => rw [e] at h; cases h
    | some x =>
      cases y with
      | none =>
        have h := ht x
        show PyData.eqv (d.enc x) (.str c) = _
        cases e : d.enc x with
        | tuple zs => rfl
        | _ => rw [e] at h; cases h
      | some y =>
        show PyData.eqv (d.enc x) (d.enc y) = _
        rw [d.eqv]
        by_cases e : x = y
        · subst e; simp
        · simp [e]⟩
theorem okA {c : Str} {hc : PyData.strOk c = true} {d : RD K α} {ht : ∀ x, isTupD (d.enc x) = true} (h : ∀ x, d.ok x = true) : ∀ x, (dA c hc d ht).ok x = true := fun x => by
  cases x with
  | none => rfl
  | some y => exact h y
def dO (d : RD K α) (ht : ∀ x, isTupD (d.enc x) = true) : RD K (Option α) := ⟨rO d.r, fun x => match x with
    | none => .none
    | some y => d.enc y, d.dep + 1, fun x => match x with
    | none => true
    | some y => d.ok y,
  fun x h => by
    cases x with
    | none => rfl
    | some y => exact d.lay y h,
  fun x => by
    cases x with
    | none => simp [PyData.depth]
    | some y => exact Nat.le_succ_of_le (d.dpt y),
  fun {H v x} h => by
    cases x with
    | none => cases (show v = .non from h); exact .non
    | some y => exact d.dp h.2,
  fun x y => by
    cases x with
    | none =>
      cases y with
      | none => rfl
      | some y =>
        have h := ht y
        show PyData.eqv .none (d.enc y) = _
        cases e : d.enc y with
        | tuple zs => rfl
        | _ => rw [e] at h; cases h
    | some x =>
      cases y with
      | none =>
        have h := ht x
        show PyData.eqv (d.enc x) .none = _
        cases e : d.enc x with
        | tuple zs => rfl
        | _ => rw [e] at h; cases h
      | some y =>
        show PyData.eqv (d.enc x) (d.enc y) = _
        rw [d.eqv]
        by_cases e : x = y
        · subst e; simp
        · simp [e]⟩
theorem okO {d : RD K α} {ht : ∀ x, isTupD (d.enc x) = true} (h : ∀ x, d.ok x = true) : ∀ x, (dO d ht).ok x = true := fun x => by
  cases x with
  | none => rfl
  | some y => exact h y
/-- a text out of a few: e: its encoding (one to one) -/
def rEn {α : Type} (e : α → Str) : R α := rSc fun x => V.str (e x)
def dEn (e : α → Str) (hi : ∀ x y, e x = e y → x = y) (ho : ∀ x, PyData.strOk (e x) = true) : RD K α := ⟨rEn e, fun x => .str (e x), 1, fun _ => true, fun x _ => ho x, fun _ => by simp [PyData.depth], fun {H v x} h => by cases (show v = .str (e x) from h); exact .str _, fun x y => by
  show (e x == e y) = decide (x = y)
  by_cases h : x = y
  · subst h; simp
  · rw [decide_eq_false h]
    exact beq_eq_false_iff_ne.mpr fun z => h (hi x y z)⟩
theorem okEn {e : α → Str} {hi : ∀ x y, e x = e y → x = y} {ho : ∀ x, PyData.strOk (e x) = true} : ∀ x, (dEn (K := K) e hi ho).ok x = true := fun _ => rfl
theorem en_dec {e : α → Str} (hi : ∀ x y, e x = e y → x = y) (x y : α) : decide (e x = e y) = decide (x = y) := by
  by_cases h : x = y
  · subst h; simp
  · rw [decide_eq_false h, decide_eq_false fun z => h (hi x y z)]
end

def rE0 {α : Type} (e : α → Str) (g : α → α → V) : R2 := fun x y H Q => ∃ i j, x = .str (e i) ∧ y = .str (e j) ∧ Q (g i j) H
theorem op_eqE {α : Type} [DecidableEq α] {X : Cx} {e : α → Str} (hi : ∀ x y, e x = e y → x = y) : OpR X (compareOp .Eq) (rE0 e fun i j => .bl (decide (i = j))) := fun pins s σ H x y v u Q I rx ry h => by
  obtain ⟨i, j, rfl, rfl, q⟩ := h
  exact op_eqS pins s σ H _ _ v u Q I rx ry ⟨_, _, rfl, rfl, by show Q (.bl (decide (e i = e j))) H; rw [en_dec hi]; exact q⟩
theorem op_neE {α : Type} [DecidableEq α] {X : Cx} {e : α → Str} (hi : ∀ x y, e x = e y → x = y) : OpR X (compareOp .NotEq) (rE0 e fun i j => .bl (!decide (i = j))) := fun pins s σ H x y v u Q I rx ry h => by
  obtain ⟨i, j, rfl, rfl, q⟩ := h
  exact op_neS pins s σ H _ _ v u Q I rx ry ⟨_, _, rfl, rfl, by show Q (.bl (!decide (e i = e j))) H; rw [en_dec hi]; exact q⟩

/-! ### truth -/
def tTruM (K : PySem.W.Frag) (ta : TE) : TT := fun σ H Q => ta σ H fun x H' => ∃ k, TruV K x H' k ∧ Q k H'
theorem pt_truM {X : Cx} {a : Expr} {ta : TE} (ha : PE X a ta) (he : ∀ whole, isTrue a X.env whole = (do let v ← whole; standAt a.pos; holding [v] (truthy v)) := by intro _; rfl) : PT X a (tTruM X.K ta) := pt_truth ha he
def truM (K : PySem.W.Frag) (x : V) (H : Hp) (Q : Bool → Hp → Prop) : Prop := ∃ k, TruV K x H k ∧ Q k H
section
variable {α : Type} {r : R α} {G H : Hp} {O : Own} {K : PySem.W.Frag} {v : V} {vs : List V} {xs : List α} {a : Addr} {QB : Bool → Hp → Prop}
theorem gTru {ta : TE} {σ : L2.St} (h : ta σ H fun x H' => truM K x H' QB) : tTruM K ta σ H QB := h
theorem emp_eq (h : Al r G vs xs) : (!vs.isEmpty) = !xs.isEmpty := by
  cases vs with
  | nil =>
    cases xs with
    | nil => rfl
    | cons y ys => exact h.elim
  | cons u us =>
    cases xs with
    | nil => exact h.elim
    | cons y ys => rfl
theorem q_truT (S : Sub G O H) (h : (rT K r).rel G v xs) (q : QB (!xs.isEmpty) H) : truM K v H QB := by
  obtain ⟨p, vs, rfl, hs, ha⟩ := h
  exact ⟨_, .inr (.inl ⟨vs, sqT_up S.ext hs, rfl⟩), by rw [emp_eq ha]; exact q⟩
theorem q_truL (S : Sub G O H) (h : (rL K r).rel G v xs) (q : QB (!xs.isEmpty) H) : truM K v H QB := by
  obtain ⟨p, vs, rfl, hs, ha⟩ := h
  exact ⟨_, .inl ⟨vs, sqL_up S.ext hs, rfl⟩, by rw [emp_eq ha]; exact q⟩
theorem q_truO (S : Sub G ((a, .lst vs) :: O) H) (h : Al r G vs xs) (q : QB (!xs.isEmpty) H) : truM K (.ref a) H QB :=
  ⟨_, .inl ⟨vs, .inl (.inl S.head), rfl⟩, by rw [emp_eq h]; exact q⟩
end

/-! ### list comprehensions: a fold whose last state part is the list so far -/
def PvF {α τ : Type} (f : τ → α → Option τ) (xs : List α) (s1 : τ) (I : τ → Hp → Prop) (i : Nat) : Hp → Prop := fun H => ∃ s, I s H ∧ folM f (xs.drop i) s = some s1
def LcW (g : TG) (tt : TT) (te : TE) (vs : List Nat) (σ : L2.St) (Q : VK) (J : It) (H1 : Hp) : Prop := ∀ D, H1 D = none → ∃ W : Nat → Nat → Hp → Prop, (∃ m, W 0 m (upd H1 D (.lst []))) ∧ ∀ i m H, W i m H →
  (J.stop i H ∧ Q (.ref D) H) ∨ (J.go i H ∧ ∃ Nx : Hp → Prop, (∀ H', Nx H' → ∃ m', m' < m ∧ W (i + 1) m' H') ∧ ∀ x H', J.yld i H x H' → g x (wipe σ vs) H' fun σ2 H2 => wipe σ2 vs = wipe σ vs ∧ tt σ2 H2 fun b H3 =>
    if b = true then te σ2 H3 fun y H4 => ∃ acc, H4 D = some (.lst acc) ∧ acc.length < sizeLine ∧ Nx (upd H4 D (.lst (acc ++ [y]))) else Nx H3)
theorem gLc {wi : TI} {g : TG} {tt : TT} {te : TE} {vs : List Nat} {σ : L2.St} {H : Hp} {Q : VK} (h : wi σ H (LcW g tt te vs σ Q)) : tLc wi g tt te vs σ H Q := h
/-- a turn's end: the element is kept -/
def lcEl (D : Addr) (Nx : Hp → Prop) (y : V) (H : Hp) : Prop := ∃ acc, H D = some (.lst acc) ∧ acc.length < sizeLine ∧ Nx (upd H D (.lst (acc ++ [y])))
def lcTurn (tt : TT) (te : TE) (vs : List Nat) (σ : L2.St) (D : Addr) (Nx : Hp → Prop) (σ2 : L2.St) (H2 : Hp) : Prop := wipe σ2 vs = wipe σ vs ∧ tt σ2 H2 fun b H3 => if b = true then te σ2 H3 (lcEl D Nx) else Nx H3
theorem gYes {σ : L2.St} {H : Hp} {QB : Bool → Hp → Prop} (h : QB true H) : tYes σ H QB := h
section
variable {α β τ : Type} {J : It} {n : Nat} {GW : Hp → Prop} {Y : Nat → Hp → V → Hp → Prop} {f : τ → α → Option τ} {xs : List α} {s0 s1 : τ} {g : TG} {tt : TT} {te : TE} {ws : List Nat} {σ : L2.St} {H : Hp} {Q : VK}
theorem lc_fol (w : Walk J n GW Y) (hn : xs.length = n) (hm : folM f xs s0 = some s1) (I : Addr → τ → Hp → Prop) (h0 : ∀ D, H D = none → I D s0 (upd H D (.lst []))) (hG : ∀ D s H, I D s H → GW H)
    (hs : ∀ (D : Addr) (i : Nat) (x : α) (s s' : τ), xs[i]? = some x → f s x = some s' → folM f (xs.drop (i + 1)) s' = some s1 → ∀ v H H', I D s H → Y i H v H' → g v (wipe σ ws) H' (lcTurn tt te ws σ D (PvF f xs s1 (I D) (i + 1))))
    (hd : ∀ D H, I D s1 H → Q (.ref D) H) : LcW g tt te ws σ Q J H := by
  intro D hD
  refine lc_it w (PvF f xs s1 (I D)) ⟨s0, h0 D hD, hm⟩ (fun i H _ ⟨s, hI, _⟩ => hG D s H hI) (fun i v H H' hi ⟨s, hI, hf⟩ hy => ?_) fun H ⟨s, hI, hf⟩ => ?_
  · have hx : xs[i]? = some xs[i] := List.getElem?_eq_getElem (by omega)
    obtain ⟨s', hb, hr⟩ := folM_drop hx hf
    exact hs D i _ s s' hx hb hr v H H' hI hy
  · rw [← hn, List.drop_length] at hf
    cases hf
    exact hd D H hI
variable {K : PySem.W.Frag} {G : Hp} {O : Own} {r : R α} {v : V} {vs : List V} {a : Addr}
theorem lc_L (S : Sub G O H) (h : (rL K r).rel G v xs) (hm : folM f xs s0 = some s1) (I : Addr → τ → Hp → Prop) (h0 : ∀ D, H D = none → I D s0 (upd H D (.lst []))) (hG : ∀ D s H, I D s H → Ext G H)
    (hs : ∀ (D : Addr) (i : Nat) (x : α) (s s' : τ), f s x = some s' → folM f (xs.drop (i + 1)) s' = some s1 → ∀ w H, I D s H → r.rel G w x → g w (wipe σ ws) H (lcTurn tt te ws σ D (PvF f xs s1 (I D) (i + 1))))
    (hd : ∀ D H, I D s1 H → Q (.ref D) H) : itL K v H (LcW g tt te ws σ Q) := by
  obtain ⟨p, vs, rfl, hq, ha⟩ := h
  refine ⟨p, rfl, ⟨vs, sqL_up S.ext hq⟩, lc_fol (walk_list (xs := vs)) ha.len.symm hm I h0 (fun D s H hI => sqL_up (hG D s H hI) hq) (fun D i x s s' hx hb hr w H H' hI hY => ?_) hd⟩
  obtain ⟨rfl, hw⟩ := hY
  exact hs D i x s s' hb hr w _ hI (ha.at hx hw)
theorem lc_T (S : Sub G O H) (h : (rT K r).rel G v xs) (hm : folM f xs s0 = some s1) (I : Addr → τ → Hp → Prop) (h0 : ∀ D, H D = none → I D s0 (upd H D (.lst []))) (hG : ∀ D s H, I D s H → Ext G H)
    (hs : ∀ (D : Addr) (i : Nat) (x : α) (s s' : τ), f s x = some s' → folM f (xs.drop (i + 1)) s' = some s1 → ∀ w H, I D s H → r.rel G w x → g w (wipe σ ws) H (lcTurn tt te ws σ D (PvF f xs s1 (I D) (i + 1))))
    (hd : ∀ D H, I D s1 H → Q (.ref D) H) : itT K v H (LcW g tt te ws σ Q) := by
  obtain ⟨p, vs, rfl, hq, ha⟩ := h
  refine ⟨p, rfl, ⟨vs, sqT_up S.ext hq⟩, lc_fol (walk_tup (xs := vs)) ha.len.symm hm I h0 (fun D s H hI => sqT_up (hG D s H hI) hq) (fun D i x s s' hx hb hr w H H' hI hY => ?_) hd⟩
  obtain ⟨rfl, hw⟩ := hY
  exact hs D i x s s' hb hr w _ hI (ha.at hx hw)
theorem lc_R {f : τ → Int → Option τ} {xs : List Int} {n : Int} (hx : rngM n = some xs) (hm : folM f xs s0 = some s1) (I : Addr → τ → Hp → Prop) (h0 : ∀ D, H D = none → I D s0 (upd H D (.lst [])))
    (hs : ∀ (D : Addr) (i : Nat) (x : Int) (s s' : τ), f s x = some s' → folM f (xs.drop (i + 1)) s' = some s1 → ∀ H, I D s H → g (.int x) (wipe σ ws) H (lcTurn tt te ws σ D (PvF f xs s1 (I D) (i + 1))))
    (hd : ∀ D H, I D s1 H → Q (.ref D) H) : itR [V.int n] H (LcW g tt te ws σ Q) := by
  obtain ⟨c, rfl⟩ := rngM_some hx
  refine ⟨n, rfl, c.1, c.2, lc_fol walk_range (by simp) hm I h0 (fun _ _ _ _ => True.intro) (fun D i x s s' hx hb hr w H H' hI hY => ?_) hd⟩
  obtain ⟨rfl, hw⟩ := hY
  have e : (0 : Int) + (i : Nat) = x := by
    rw [List.getElem?_map] at hx
    obtain ⟨k, h1, h2⟩ := Option.map_eq_some_iff.mp hx
    have := rng_at h1
    omega
  have e2 : w = .int x := by rw [hw, ← e]
  rw [e2]
  exact hs D i x s s' hb hr _ hI
theorem lc_R2 {f : τ → Int → Option τ} {xs : List Int} {lo n : Int} (hx : rng2M lo n = some xs) (hm : folM f xs s0 = some s1) (I : Addr → τ → Hp → Prop) (h0 : ∀ D, H D = none → I D s0 (upd H D (.lst [])))
    (hs : ∀ (D : Addr) (i : Nat) (x : Int) (s s' : τ), f s x = some s' → folM f (xs.drop (i + 1)) s' = some s1 → ∀ H, I D s H → g (.int x) (wipe σ ws) H (lcTurn tt te ws σ D (PvF f xs s1 (I D) (i + 1))))
    (hd : ∀ D H, I D s1 H → Q (.ref D) H) : itR2 [V.int lo, V.int n] H (LcW g tt te ws σ Q) := by
  obtain ⟨c, rfl⟩ := rng2M_some hx
  refine ⟨lo, n, rfl, c, lc_fol walk_range (by simp) hm I h0 (fun _ _ _ _ => True.intro) (fun D i x s s' hx hb hr w H H' hI hY => ?_) hd⟩
  obtain ⟨rfl, hw⟩ := hY
  have e : lo + (i : Nat) = x := by
    rw [List.getElem?_map] at hx
    obtain ⟨k, h1, h2⟩ := Option.map_eq_some_iff.mp hx
    have := rng_at h1
    omega
  have e2 : w = .int x := by rw [hw, ← e]
  rw [e2]
  exact hs D i x s s' hb hr _ hI
theorem lc_Eit {f : τ → Int × α → Option τ} {i1 i2 : Nat} {J : It} {vs : List V} (w : Walk J vs.length GW (YPair (fun i => some (.int (i : Nat))) (fun i => vs[i]?))) (ha : Al r G vs xs) (hm : folM f (enumM xs) s0 = some s1) (I : Addr → τ → Hp → Prop) (h0 : ∀ D, H D = none → I D s0 (upd H D (.lst []))) (hG : ∀ D s H, I D s H → GW H)
    (hs : ∀ (D : Addr) (i : Nat) (x : α) (s s' : τ), f s ((i : Int), x) = some s' → folM f ((enumM xs).drop (i + 1)) s' = some s1 → ∀ w H H', I D s H → (∀ G O, Sub G O H → Sub G O H') → r.rel G w x →
      lcTurn tt te ws σ D (PvF f (enumM xs) s1 (I D) (i + 1)) (((wipe σ ws).set i1 (some (.int (i : Int)))).set i2 (some w)) H')
    (hd : ∀ D H, I D s1 H → Q (.ref D) H) : LcW (gTup K 2 (gCons (gName i1) (gCons (gName i2) gNil))) tt te ws σ Q J H := by
  refine lc_fol w (by rw [enumM_length, ha.len]) hm I h0 hG (fun D i y s s' hx hb hr v H H' hI hY => ?_) hd
  rw [enumM_get] at hx
  obtain ⟨x, hx2, rfl⟩ := Option.map_eq_some_iff.mp hx
  obtain ⟨T, k, w, rfl, hT, rfl, hk, hw⟩ := hY
  cases hk
  exact ⟨T, _, rfl, .inl (.inl upd_same), rfl, _, _, rfl, _, _, rfl, rfl, hs D i x s s' hb hr w H _ hI (fun G O S => S.junk hT) (ha.at hx2 hw)⟩
theorem lc_EQ {f : τ → Int × α → Option τ} {i1 i2 : Nat} (S : Sub G O H) (h : (rQ K r).rel G v xs) (hm : folM f (enumM xs) s0 = some s1) (I : Addr → τ → Hp → Prop) (h0 : ∀ D, H D = none → I D s0 (upd H D (.lst []))) (hG : ∀ D s H, I D s H → Ext G H)
    (hs : ∀ (D : Addr) (i : Nat) (x : α) (s s' : τ), f s ((i : Int), x) = some s' → folM f ((enumM xs).drop (i + 1)) s' = some s1 → ∀ w H H', I D s H → (∀ G O, Sub G O H → Sub G O H') → r.rel G w x →
      lcTurn tt te ws σ D (PvF f (enumM xs) s1 (I D) (i + 1)) (((wipe σ ws).set i1 (some (.int (i : Int)))).set i2 (some w)) H')
    (hd : ∀ D H, I D s1 H → Q (.ref D) H) : itE K [v] H (LcW (gTup K 2 (gCons (gName i1) (gCons (gName i2) gNil))) tt te ws σ Q) := by
  obtain ⟨p, vs, rfl, hq, ha⟩ := h
  refine ⟨p, vs, rfl, ?_⟩
  rcases hq with hq | hq
  · exact .inl ⟨sqL_up S.ext hq, lc_Eit walk_enum ha hm I h0 (fun D s H hI => sqL_up (hG D s H hI) hq) hs hd⟩
  · exact .inr ⟨sqT_up S.ext hq, lc_Eit walk_enumT ha hm I h0 (fun D s H hI => sqT_up (hG D s H hI) hq) hs hd⟩
end
section
variable {α β τ : Type} {r : R β} {G H : Hp} {O : Own} {vs : List V} {D : Addr} {y : V} {b : β} {acc acc' : List β} {Nx : Hp → Prop}
theorem q_lcEl (S : Sub G ((D, .lst vs) :: O) H) (h : Al r G vs acc) (hy : r.rel G y b) (e : appM acc b = some acc') (q : ∀ H' w, Sub G ((D, .lst w) :: O) H' → Al r G w acc' → Nx H') : lcEl D Nx y H := by
  obtain ⟨c, rfl⟩ := appM_some e
  exact ⟨vs, S.head, szl (by rw [h.len]; exact c), q _ _ S.wr (h.snoc hy)⟩
end
end Mr

set_option Elab.async false
set_option linter.all false
set_option maxRecDepth 100000
/-! Mir3: chained comparisons, in. -/
namespace Mr
open PySem PySem.Spec PyProof.Rows L2
theorem ix_listK {X : Cx} {K : PySem.W.Frag} (h : X.K = K) : IxR X (rIxL K) := h ▸ ix_list
theorem ix_tupK {X : Cx} {K : PySem.W.Frag} (h : X.K = K) : IxR X (rIxT K) := h ▸ ix_tup
theorem call_lenK {X : Cx} {K : PySem.W.Frag} (h : X.K = K) : CallR X (.builtin "len") (rLenM K) := h ▸ call_lenM
theorem op_inDK {X : Cx} {K : PySem.W.Frag} (h : X.K = K) (hu : X.A.units + 65 < cLine) : OpR X (compareOp .In) (rInD K) := h ▸ op_inD hu
theorem op_notInDK {X : Cx} {K : PySem.W.Frag} (h : X.K = K) (hu : X.A.units + 65 < cLine) : OpR X (compareOp .NotIn) (rNotInD K) := h ▸ op_notInD hu
theorem op_eqDK {X : Cx} {K : PySem.W.Frag} (h : X.K = K) (hu : X.A.units + 64 < cLine) : OpR X (compareOp .Eq) (rEqD K) := h ▸ op_eqD hu
theorem op_neDK {X : Cx} {K : PySem.W.Frag} (h : X.K = K) (hu : X.A.units + 64 < cLine) : OpR X (compareOp .NotEq) (rNeD K) := h ▸ op_neD hu
theorem un65 {k : Nat} {A : Around} (r : Room k A) : A.units + 65 < cLine := by have := r.un; omega
section
variable {ta tb tc te : TE} {σ : L2.St} {H : Hp} {Q : VK} {QB : Bool → Hp → Prop}
theorem gChain {r r' : R2} (h : ta σ H fun x H1 => tb σ H1 fun y H2 => r x y H2 fun z H3 => ∃ k, z = .bl k ∧ (if k = true then tc σ H3 fun w' H4 => r' y w' H4 Q else Q (.bl false) H3)) : tChain r r' ta tb tc σ H Q := h
end
section
variable {K : PySem.W.Frag} {α : Type} [DecidableEq α] {H : Hp} {v w : V} {x : α} {xs : List α} {Q : VK}
theorem any_mem (d : RD K α) (x : α) : ∀ xs : List α, ((xs.map d.enc).any fun z => PyData.eqv z (d.enc x)) = decide (x ∈ xs)
  | [] => by simp
  | y :: ys => by
    rw [List.map_cons, List.any_cons, any_mem d x ys, d.eqv]
    by_cases h : y = x
    · subst h; simp
    · have h' : ¬ x = y := fun e => h e.symm
      simp [h, h']
theorem q_inD (d : RD K α) (hd : d.dep + 1 ≤ 64) (h1 : d.r.rel H v x) (h2 : (rM d.r).rel H w xs) (o1 : d.ok x = true) (o2 : xs.all d.ok = true) (q : Q (.bl (decide (x ∈ xs))) H) : rInD K v w H Q :=
  ⟨d.enc x, xs.map d.enc, d.dp h1, (dM d).dp h2, d.shaped (by omega) o1, (dM d).shaped hd o2, by rw [any_mem]; exact q⟩
theorem q_niD (d : RD K α) (hd : d.dep + 1 ≤ 64) (h1 : d.r.rel H v x) (h2 : (rM d.r).rel H w xs) (o1 : d.ok x = true) (o2 : xs.all d.ok = true) (q : Q (.bl (!decide (x ∈ xs))) H) : rNotInD K v w H Q :=
  ⟨d.enc x, xs.map d.enc, d.dp h1, (dM d).dp h2, d.shaped (by omega) o1, (dM d).shaped hd o2, by rw [any_mem]; exact q⟩
end
/-! ### while -/
def PvW {σ ρ : Type} (f : σ → Option (Bf σ ρ)) (res : Fl σ ρ) (I : σ → L2.St → Hp → Prop) (n : Nat) : L2.St → Hp → Prop := fun σ' H => ∃ s, I s σ' H ∧ whL f n s = some res
theorem lp_W {τ ρ : Type} {f : τ → Option (Bf τ ρ)} {N : Nat} {s0 : τ} {res : Fl τ ρ} {c : TT} {tb : TS} {D : Ends} {σ : L2.St} {H : Hp} (hm : whL f N s0 = some res) (I : τ → L2.St → Hp → Prop) (h0 : I s0 σ H)
    (hs : ∀ (n : Nat) (s : τ) (b : Bf τ ρ), f s = some b → conW f n b = some res → ∀ σ H, I s σ H →
      c σ H fun t H1 => if t = true then ∃ N : L2.St → Hp → Prop, (∀ σ' H', N σ' H' → ∃ m', m' < n + 1 ∧ PvW f res I m' σ' H') ∧ tb { D with nx := N, ct := N, bk := D.nx } σ H1 else D.nx σ H1) : tWhile c tb D σ H := by
  refine ⟨fun m => PvW f res I m, ⟨N, s0, h0, hm⟩, fun m σ H hW => ?_⟩
  obtain ⟨s, hI, hf⟩ := hW
  cases m with
  | zero => cases hf
  | succ n =>
    rw [whL_succ] at hf
    obtain ⟨b, hb, hc⟩ := bindS hf
    exact hs n s b hb hc σ H hI
theorem whGo {τ ρ : Type} {f : τ → Option (Bf τ ρ)} {res : Fl τ ρ} {I : τ → L2.St → Hp → Prop} {n : Nat} {tb : TS} {D : Ends} {σ : L2.St} {H1 : Hp} (h : tb { D with nx := PvW f res I n, ct := PvW f res I n, bk := D.nx } σ H1) :
    ∃ N : L2.St → Hp → Prop, (∀ σ' H', N σ' H' → ∃ m', m' < n + 1 ∧ PvW f res I m' σ' H') ∧ tb { D with nx := N, ct := N, bk := D.nx } σ H1 := ⟨_, fun _ _ h => ⟨n, Nat.lt_succ_self n, h⟩, h⟩
/-! ### in a tuple of ints -/
theorem inV_ints (x : Int) : ∀ (as : List Int), inV (.int x) (as.map V.int) = decide (x ∈ as)
  | [] => by simp [inV]
  | a :: as => by
    have ih := inV_ints x as
    unfold inV at ih ⊢
    rw [List.map_cons, List.any_cons, ih]
    have e : eqV (V.int a) (V.int x) = decide (a = x) := rfl
    rw [e]
    by_cases h : a = x
    · subst h; simp
    · have h' : ¬ x = a := fun q => h q.symm
      simp [h, h']
theorem flat_ints : ∀ (as : List Int), (as.map V.int).all flatV = true
  | [] => rfl
  | a :: as => by rw [List.map_cons, List.all_cons, flat_ints as]; rfl
theorem q_inT {K : PySem.W.Frag} {H : Hp} {x : Int} {p : Addr} {Q : VK} (as : List Int) (q : Q (.bl (decide (x ∈ as))) (upd H p (.tup (as.map V.int)))) : rIn K false (.int x) (.ref p) (upd H p (.tup (as.map V.int))) Q :=
  ⟨p, as.map V.int, rfl, .inr (.inl (.inl upd_same)), rfl, flat_ints as, by show Q (.bl (inV (.int x) (as.map V.int))) _; rw [inV_ints]; exact q⟩
/-! ### for over a list or a tuple -/
def iQ (K : PySem.W.Frag) (tl : TE) : TI := fun σ H R => tl σ H fun x H1 => ∃ a, x = .ref a ∧ (((∃ xs, SqL K H1 a xs) ∧ R (Itl K a) H1) ∨ ((∃ xs, SqT K H1 a xs) ∧ R (Itt K a) H1))
theorem pi_Q {X : Cx} {tg l : Expr} {tl : TE} (hl : PE X l tl) : PI X tg l (iQ X.K tl) := by
  refine ⟨fun pins s σ H R I h => ?_⟩
  refine thn (hl.run pins s σ H _ I h) fun v s1 ⟨x, H1, I1, r1, a, e, q1⟩ => ?_
  subst e
  cases r1
  have fr : ∀ b ∈ [s1.heap.objs.size], b = s1.heap.objs.size := fun b hb => by simpa using hb
  rcases q1 with ⟨⟨xs, hq⟩, q⟩ | ⟨⟨xs, hq⟩, q⟩
  · obtain ⟨its, rv, p, hz⟩ := I1.list hq
    exact wpAny_pyIter_list p.isList ⟨s1.heap.objs.size, [s1.heap.objs.size], _, _, H1, rfl, I1.kept (t' := s1.toks) fun b o e => Heap.get?_push_of_some _ e, turn_list a _, ⟨_, Heap.get?_push_size _ rfl, rfl, rfl⟩, fun b hb => by rw [fr b hb]; exact I1.fpOk (Nat.le_refl _) (I1.hok.fresh (Nat.le_refl _)), q⟩
  · obtain ⟨its, rv, p, hz⟩ := I1.tuple hq
    exact wpAny_pyIter_tuple (show s1.heap.IsTuple a its.toArray from p) ⟨s1.heap.objs.size, [s1.heap.objs.size], _, _, H1, rfl, I1.kept (t' := s1.toks) fun b o e => Heap.get?_push_of_some _ e, turn_tuple a _, ⟨_, Heap.get?_push_size _ rfl, rfl, rfl⟩, fun b hb => by rw [fr b hb]; exact I1.fpOk (Nat.le_refl _) (I1.hok.fresh (Nat.le_refl _)), q⟩
def itQ (K : PySem.W.Frag) (x : V) (H : Hp) (RI : It → Hp → Prop) : Prop := ∃ a, x = .ref a ∧ (((∃ xs, SqL K H a xs) ∧ RI (Itl K a) H) ∨ ((∃ xs, SqT K H a xs) ∧ RI (Itt K a) H))
theorem gIQ {K : PySem.W.Frag} {te : TE} {σ : L2.St} {H : Hp} {RI : It → Hp → Prop} (h : te σ H fun x H1 => itQ K x H1 RI) : iQ K te σ H RI := h
theorem lp_Q {α τ ρ : Type} {f : τ → α → Option (Bf τ ρ)} {xs : List α} {s0 : τ} {res : Fl τ ρ} {g : TG} {tb : TS} {D : Ends} {σ : L2.St} {H G : Hp} {K : PySem.W.Frag} {O : Own} {r : R α} {v : V} (S : Sub G O H) (h : (rQ K r).rel G v xs) (hm : forL f xs s0 = some res) (I : τ → L2.St → Hp → Prop) (h0 : I s0 σ H) (hG : ∀ s σ H, I s σ H → Ext G H)
    (hs : ∀ (i : Nat) (x : α) (s : τ) (b : Bf τ ρ), f s x = some b → conL f (xs.drop (i + 1)) b = some res → ∀ w σ H, I s σ H → r.rel G w x →
      g w σ H fun σ2 H2 => tb { D with nx := PvL f xs res I (i + 1), ct := PvL f xs res I (i + 1), bk := D.nx } σ2 H2)
    (hd : ∀ s σ H, res = .nx s → I s σ H → D.nx σ H) :
    itQ K v H (LpW g tb D σ) := by
  obtain ⟨p, vs, rfl, hq, ha⟩ := h
  rcases hq with hq | hq
  · obtain ⟨a, e, h1, h2⟩ := lp_L S ⟨p, vs, rfl, hq, ha⟩ hm I h0 hG hs hd
    exact ⟨a, e, .inl ⟨h1, h2⟩⟩
  · obtain ⟨a, e, h1, h2⟩ := lp_T S ⟨p, vs, rfl, hq, ha⟩ hm I h0 hG hs hd
    exact ⟨a, e, .inr ⟨h1, h2⟩⟩
/-! ### all, any of a list of bools -/
theorem q_all {K : PySem.W.Frag} {G H : Hp} {O : Own} {v : V} {xs : List Bool} {Q : VK} (S : Sub G O H) (h : (rM rBool).rel G v xs) (q : Q (.bl (xs.all id)) H) : rAll K [v] H Q := by
  obtain ⟨p, vs, rfl, hs, ha⟩ := h
  exact ⟨p, xs, rfl, by rw [← ha.sc]; exact .inl (.inl (S.ext _ _ hs)), q⟩
theorem q_any {K : PySem.W.Frag} {G H : Hp} {O : Own} {v : V} {xs : List Bool} {Q : VK} (S : Sub G O H) (h : (rM rBool).rel G v xs) (q : Q (.bl (xs.any id)) H) : rAny K [v] H Q := by
  obtain ⟨p, vs, rfl, hs, ha⟩ := h
  exact ⟨p, xs, rfl, by rw [← ha.sc]; exact .inl (.inl (S.ext _ _ hs)), q⟩
end Mr

set_option Elab.async false
set_option linter.all false
set_option maxRecDepth 100000
set_option maxHeartbeats 2000000
/-! Mir4: slices of owned lists, xs[::-1], max(xs), is None, is of bools, properties. -/
namespace Mr
open PySem PySem.Spec PyProof.Rows L2
section
variable {α β γ δ : Type} {r : R α} {G G' H : Hp} {O : Own} {K : PySem.W.Frag} {v w : V} {vs : List V} {x : α} {xs ys : List α} {a : Addr} {Q : VK} {σ : L2.St}
theorem Al.rev : ∀ {vs : List V} {xs : List α}, Al r G vs xs → Al r G vs.reverse xs.reverse
  | [], [], _ => True.intro
  | v :: vs, x :: xs, h => by
    rw [List.reverse_cons, List.reverse_cons]
    exact (Al.rev h.2).app ⟨h.1, True.intro⟩
  | [], _ :: _, h => h.elim
  | _ :: _, [], h => h.elim
theorem q_slO {lo hi : Option Int} (S : Sub G ((a, .lst vs) :: O) H) (h : Al r G vs xs) (q : ∀ w G' H', Ext G G' → Sub G' ((a, .lst vs) :: O) H' → (rM r).rel G' w (cutM xs lo hi) → Q w H') : rSlL K (.ref a) lo hi H Q := by
  refine ⟨a, vs, rfl, .inl (.inl S.head), fun t ht => q _ _ _ (S.extNew ht (.lst (cutV vs lo hi))) (S.new ht) ⟨t, _, rfl, upd_same, ?_⟩⟩
  exact (h.up (S.extNew ht _)).cut
/-- an owned list is lent -/
theorem Sub.thaw {G2 H2 : Hp} {o : HO} (S : Sub G ((a, o) :: O) H) (e : Ext (upd G a o) G2) (S2 : Sub G2 O H2) : Sub G ((a, o) :: O) H2 := by
  have h0 : Ext G G2 := S.extFrz.trans e
  refine ⟨h0.trans S2.ext, fun q hq => ?_, S.nd, S.nt⟩
  rcases List.mem_cons.mp hq with rfl | hq
  · exact ⟨S2.ext _ _ (e _ _ upd_same), S.ghead⟩
  · obtain ⟨h1, h2⟩ := S2.own q hq
    refine ⟨h1, ?_⟩
    cases hg : G q.1 with
    | none => rfl
    | some u => rw [h0 _ _ hg] at h2; cases h2
theorem rM_lent (S : Sub G ((a, .lst vs) :: O) H) (h : Al r G vs xs) : (rM r).rel (upd G a (.lst vs)) (.ref a) xs := ⟨a, vs, rfl, upd_same, h.up S.extFrz⟩
def mkRev (K : PySem.W.Frag) (x : V) (H1 : Hp) (Q : VK) : Prop := ∃ a xs, x = .ref a ∧ SqL K H1 a xs ∧ ∀ p, H1 p = none → Q (.ref p) (upd H1 p (.lst xs.reverse))
theorem pe_revLK {X : Cx} {K : PySem.W.Frag} {e : Expr} {te : TE} {k : Nat} {p1 p2 p3 pos : Pos} (h : X.K = K) (he : PE X e te) : PE X (.Subscript e (.Slice none none (some (.UnaryOp .USub (.Constant (.int 1) k p1) p2)) p3) pos) (tRevL K te) := h ▸ pe_revL he
theorem gRevL {te : TE} (h : te σ H fun x H1 => mkRev K x H1 Q) : tRevL K te σ H Q := h
theorem q_rev (S : Sub G O H) (h : (rL K r).rel G v xs) (q : ∀ w G' H', Ext G G' → Sub G' O H' → (rM r).rel G' w xs.reverse → Q w H') : mkRev K v H Q := by
  obtain ⟨p, vs, rfl, hs, ha⟩ := h
  exact ⟨p, vs, rfl, sqL_up S.ext hs, fun t ht => q _ _ _ (S.extNew ht _) (S.new ht) ⟨t, _, rfl, upd_same, (ha.up (S.extNew ht _)).rev⟩⟩
theorem q_revO (S : Sub G ((a, .lst vs) :: O) H) (h : Al r G vs xs) (q : ∀ w G' H', Ext G G' → Sub G' ((a, .lst vs) :: O) H' → (rM r).rel G' w xs.reverse → Q w H') : mkRev K (.ref a) H Q :=
  ⟨a, vs, rfl, .inl (.inl S.head), fun t ht => q _ _ _ (S.extNew ht _) (S.new ht) ⟨t, _, rfl, upd_same, (h.up (S.extNew ht _)).rev⟩⟩
theorem q_max {ns : List Int} {m : Int} (S : Sub G O H) (h : (rL K rInt).rel G v ns) (hm : maxM ns = some m) (q : Q (.int m) H) : rMax K [v] H Q := by
  obtain ⟨p, vs, rfl, hs, ha⟩ := h
  have hv := Al.sc ha
  subst hv
  obtain ⟨h1, h2, h3⟩ := maxM_some hm
  refine ⟨p, ns, rfl, sqL_up S.ext hs, h3, fun m' h1' h2' => ?_⟩
  rw [max_uniq ⟨h1', h2'⟩ ⟨h1, h2⟩]; exact q
theorem gProp {C : Addr} {sp : Sp} {dvs : List V} {E : XK} {ta : TE} (h : ta σ H fun x H1 => ∃ a dx fs, x = .ref a ∧ H1 a = some (.ins C dx fs) ∧ sp (.ref a :: dvs) H1 Q E) : tProp C sp dvs E ta σ H Q := h
end
/-! ### conversions of nested data -/
section
variable {α : Type} {r r' : R α} {K : PySem.W.Frag} {G : Hp} {v : V} {xs : List α}
theorem Al.imp (f : ∀ v x, r.rel G v x → r'.rel G v x) : ∀ {vs : List V} {xs : List α}, Al r G vs xs → Al r' G vs xs
  | [], [], _ => True.intro
  | _ :: _, _ :: _, h => ⟨f _ _ h.1, Al.imp f h.2⟩
  | [], _ :: _, h => h.elim
  | _ :: _, [], h => h.elim
theorem cv_MQ (f : ∀ v x, r.rel G v x → r'.rel G v x) (h : (rM r).rel G v xs) : (rQ K r').rel G v xs := let ⟨p, vs, e, h, ha⟩ := h; ⟨p, vs, e, .inl (.inl (.inl h)), ha.imp f⟩
theorem cv_LQ (f : ∀ v x, r.rel G v x → r'.rel G v x) (h : (rL K r).rel G v xs) : (rQ K r').rel G v xs := let ⟨p, vs, e, h, ha⟩ := h; ⟨p, vs, e, .inl h, ha.imp f⟩
theorem cv_TQ (f : ∀ v x, r.rel G v x → r'.rel G v x) (h : (rT K r).rel G v xs) : (rQ K r').rel G v xs := let ⟨p, vs, e, h, ha⟩ := h; ⟨p, vs, e, .inr h, ha.imp f⟩
theorem cv_QQ (f : ∀ v x, r.rel G v x → r'.rel G v x) (h : (rQ K r).rel G v xs) : (rQ K r').rel G v xs := let ⟨p, vs, e, h, ha⟩ := h; ⟨p, vs, e, h, ha.imp f⟩
theorem cv_ML (f : ∀ v x, r.rel G v x → r'.rel G v x) (h : (rM r).rel G v xs) : (rL K r').rel G v xs := let ⟨p, vs, e, h, ha⟩ := h; ⟨p, vs, e, .inl (.inl h), ha.imp f⟩
theorem cv_LL (f : ∀ v x, r.rel G v x → r'.rel G v x) (h : (rL K r).rel G v xs) : (rL K r').rel G v xs := let ⟨p, vs, e, h, ha⟩ := h; ⟨p, vs, e, h, ha.imp f⟩
end
end Mr

set_option Elab.async false
set_option linter.all false
set_option maxRecDepth 100000
set_option maxHeartbeats 1000000
/-! GenFr: code that is run leaves the generators that sleep as they are, if it runs well where none of them can be woken. -/
namespace GFr
open PySem
open Sem (wp)
/-- one that sleeps and can't be woken; it looks the same -/
def stk : GenState → GenState
  | .suspended _ l c p fs cl => .suspended (fun _ => .unsupported "asleep") l c p fs cl
  | x => x
def isSus : GenState → Bool
  | .suspended .. => true
  | _ => false
abbrev nog (fs : List Frame) : Prop := splitAtGen fs = none
def nogS : GenState → Prop
  | .suspended _ _ _ _ fs _ => nog fs
  | _ => True
def nogE : End → Prop
  | .susp _ _ _ _ _ _ fs => nog fs
  | _ => True
theorem nog_ret {k h g l c p kp fs} (x : nog (.ret k h g l c p kp :: fs)) : nog fs := by
  have y : (splitAtGen fs).map _ = none := x
  exact Option.map_eq_none_iff.mp y
theorem nog_cons {k h g l c p kp fs} (x : nog fs) : nog (.ret k h g l c p kp :: fs) := by
  show (splitAtGen fs).map _ = none
  rw [show splitAtGen fs = none from x]; rfl
theorem nog_app : ∀ {a b : List Frame}, nog a → nog b → nog (a ++ b)
  | [], _, _, h => h
  | .ret .. :: a, b, h1, h2 => nog_cons (nog_app (nog_ret h1) h2)
  | .gen .. :: a, b, h1, _ => by cases (show some _ = none from h1)
theorem seen_stk (x : GenState) : (stk x).seen = x.seen := by cases x <;> rfl
theorem bare_stk (x : GenState) : (stk x).bare = x.bare := by cases x <;> rfl
theorem nogS_gen {e : End} (h : nogE e) : nogS e.genState := by
  cases e with
  | ret r => exact True.intro
  | susp v g l k c p fs => exact h
abbrev Pt := Nat → Option GenState
def pat (P : Pt) (s : Shared) : Shared := { s with gens := s.gens.mapIdx fun j x => (P j).getD x }
structure Ok (P : Pt) (s : Shared) : Prop where
  st : ∀ j gs, P j = some gs → isSus gs = true ∧ s.gens[j]? = some (stk gs)
  fr : ∀ j x, P j = none → s.gens[j]? = some x → nogS x
section
variable {P : Pt} {s : Shared} {g : Nat} {x : GenState}
theorem pat_get : (pat P s).gens[g]? = (s.gens[g]?).map fun x => (P g).getD x := by
  simp [pat]
theorem Ok.none_of (o : Ok P s) (h : s.gens[g]? = some x) (hx : isSus x = false) : P g = none := by
  cases e : P g with
  | none => rfl
  | some gs =>
    obtain ⟨h1, h2⟩ := o.st g gs e
    rw [h] at h2
    cases gs <;> simp_all [isSus, stk]
theorem pat_at (hp : P g = none) (h : s.gens[g]? = some x) : (pat P s).gens[g]? = some x := by
  rw [pat_get, h, hp]; rfl
theorem pat_set (hp : P g = none) : (pat P s).setGen g x = pat P (s.setGen g x) := by
  unfold pat Shared.setGen
  congr 1
  refine Array.ext_getElem? fun j => ?_
  simp only [Array.getElem?_setIfInBounds, Array.getElem?_mapIdx, Array.size_mapIdx]
  by_cases hj : g = j
  · subst hj
    by_cases hl : g < s.gens.size
    · simp [hl, hp]
    · simp [hl]
  · simp [hj]
theorem Ok.set (o : Ok P s) (hp : P g = none) (hx : nogS x) : Ok P (s.setGen g x) := by
  refine ⟨fun j gs e => ?_, fun j y e h => ?_⟩
  · obtain ⟨h1, h2⟩ := o.st j gs e
    refine ⟨h1, ?_⟩
    have hj : g ≠ j := fun z => by rw [z, e] at hp; cases hp
    simp only [Shared.setGen, Array.getElem?_setIfInBounds, hj, if_false]
    exact h2
  · simp only [Shared.setGen, Array.getElem?_setIfInBounds] at h
    by_cases hj : g = j
    · subst hj
      rw [if_pos rfl] at h
      split at h
      · cases h; exact hx
      · cases h
    · rw [if_neg hj] at h
      exact o.fr j y e h
theorem Ok.free (o : Ok P s) : P s.gens.size = none := by
  cases e : P s.gens.size with
  | none => rfl
  | some gs =>
    obtain ⟨_, h2⟩ := o.st _ gs e
    simp at h2
theorem pat_push (o : Ok P s) {c : Code} : pat P { s with gens := s.gens.push (.fresh c) } = { pat P s with gens := (pat P s).gens.push (.fresh c) } := by
  have hf := o.free
  unfold pat
  congr 1
  refine Array.ext_getElem? fun j => ?_
  simp only [Array.getElem?_mapIdx, Array.getElem?_push, Array.size_mapIdx]
  by_cases hj : j = s.gens.size
  · subst hj; simp [hf]
  · simp [hj]
theorem pat_size : (pat P s).gens.size = s.gens.size := by simp [pat]
theorem Ok.push (o : Ok P s) {c : Code} : Ok P { s with gens := s.gens.push (.fresh c) } := by
  refine ⟨fun j gs e => ?_, fun j y e h => ?_⟩
  · obtain ⟨h1, h2⟩ := o.st j gs e
    refine ⟨h1, ?_⟩
    have hl : j < s.gens.size := (Array.getElem?_eq_some_iff.mp h2).1
    simp only [Array.getElem?_push]
    rw [if_neg (Nat.ne_of_lt hl)]; exact h2
  · simp only [Array.getElem?_push] at h
    split at h
    · cases h; exact True.intro
    · exact o.fr j y e h
end
theorem no_unsup {M : Model} {Γ : Ctx} {p : Pos} {w : String} {fs : List Frame} {s s' : Shared} {e : End} (h : Runs M Γ p (.unsupported w) fs s e s') : False := by
  generalize ht : (Sem.unsupported w : Sem PySem.Fin) = t at h
  induction h <;> first | (cases ht; done) | (subst ht; simp_all)
theorem gs_step {M : Model} {P : Pt} {Γ : Ctx} {p : Pos} {s s' : Shared} {e : End} {g : Nat} {st : GenState} {k : GenStatus × Option (List (Code × Pos)) → Sem PySem.Fin} (o : Ok P s) (hg : s.gens[g]? = some st)
    (c : Runs M Γ p (k st.seen) [] (pat P s) e (pat P s')) : Runs M Γ p (.genState g k) [] (pat P s) e (pat P s') := by
  cases hp : P g with
  | none => exact .genState (pat_at hp hg) c
  | some gs =>
    obtain ⟨_, h2⟩ := o.st g gs hp
    rw [hg] at h2
    cases h2
    rw [seen_stk] at c
    exact .genState (by rw [pat_get, hg, hp]; rfl) c
theorem sim {M : Model} {P : Pt} {Γ : Ctx} {p : Pos} {t : Sem PySem.Fin} {fs : List Frame} {s s' : Shared} {e : End} (h : Runs M Γ p t fs s e s') :
    Ok P s → nog fs → Ok P s' ∧ nogE e ∧ Runs M Γ p t fs (pat P s) e (pat P s') := by
  induction h with
  | done => exact fun o _ => ⟨o, True.intro, .done⟩
  | raise => exact fun o _ => ⟨o, True.intro, .raise⟩
  | again hq _ ih => exact fun o n => let ⟨a, b, c⟩ := ih o n; ⟨a, b, .again hq c⟩
  | rule _ ih => exact fun o n => let ⟨a, b, c⟩ := ih o n; ⟨a, b, .rule c⟩
  | «at» _ ih => exact fun o n => let ⟨a, b, c⟩ := ih o n; ⟨a, b, .at c⟩
  | load ho _ ih => exact fun o n => let ⟨a, b, c⟩ := ih o n; ⟨a, b, .load ho c⟩
  | update ho _ ih => exact fun o n => let ⟨a, b, c⟩ := ih ⟨o.st, o.fr⟩ n; ⟨a, b, .update ho c⟩
  | loadIfAlive _ ih => exact fun o n => let ⟨a, b, c⟩ := ih o n; ⟨a, b, .loadIfAlive c⟩
  | point _ ih => exact fun o n => let ⟨a, b, c⟩ := ih o n; ⟨a, b, .point c⟩
  | alloc _ ih => exact fun o n => let ⟨a, b, c⟩ := ih ⟨o.st, o.fr⟩ n; ⟨a, b, .alloc c⟩
  | fresh _ ih => exact fun o n => let ⟨a, b, c⟩ := ih ⟨o.st, o.fr⟩ n; ⟨a, b, .fresh c⟩
  | ask _ ih => exact fun o n => let ⟨a, b, c⟩ := ih o n; ⟨a, b, .ask c⟩
  | choose hn _ ih => exact fun o n => let ⟨a, b, c⟩ := ih ⟨o.st, o.fr⟩ n; ⟨a, b, .choose hn c⟩
  | os _ ih => exact fun o n => let ⟨a, b, c⟩ := ih ⟨o.st, o.fr⟩ n; ⟨a, b, .os c⟩
  | handled _ ih => exact fun o n => let ⟨a, b, c⟩ := ih o n; ⟨a, b, .handled c⟩
  | genState hg _ ih =>
    intro o n
    obtain ⟨a, b, c⟩ := ih o n
    refine ⟨a, b, ?_⟩
    exact gs_step o hg c
  | stack _ ih => exact fun o n => let ⟨a, b, c⟩ := ih o n; ⟨a, b, .stack c⟩
  | thread _ ih => exact fun o n => let ⟨a, b, c⟩ := ih o n; ⟨a, b, .thread c⟩
  | newGen _ ih =>
    intro o n
    obtain ⟨a, b, c⟩ := ih o.push n
    rw [pat_push o] at c
    refine ⟨a, b, .newGen ?_⟩
    rw [pat_size]; exact c
  | call _ _ ih1 ih2 =>
    intro o n
    obtain ⟨a, _, c⟩ := ih1 o rfl
    obtain ⟨a2, b2, c2⟩ := ih2 a n
    exact ⟨a2, b2, .call c c2⟩
  | callSusp _ ih =>
    intro o n
    obtain ⟨a, b, c⟩ := ih o rfl
    exact ⟨a, nog_app b (nog_cons rfl), .callSusp c⟩
  | yield => exact fun o _ => ⟨o, rfl, .yield⟩
  | resumeFresh hg _ hq _ ih1 ih2 =>
    intro o n
    have hp := o.none_of hg rfl
    obtain ⟨a, b, c⟩ := ih1 (o.set hp True.intro) rfl
    obtain ⟨a2, b2, c2⟩ := ih2 (a.set hp (nogS_gen b)) n
    rw [← pat_set hp] at c c2
    exact ⟨a2, b2, .resumeFresh (pat_at hp hg) c hq c2⟩
  | @resumeSuspended Γ p g r l k s k₀ l₀ c₀ p₀ fs cl e₁ s₁ e s' hg h1 hq _ ih1 ih2 =>
    intro o n
    cases hp : P g with
    | none =>
      have hn : nog fs := o.fr g _ hp hg
      obtain ⟨a, b, c⟩ := ih1 (o.set hp True.intro) hn
      obtain ⟨a2, b2, c2⟩ := ih2 (a.set hp (nogS_gen b)) n
      rw [← pat_set hp] at c c2
      exact ⟨a2, b2, .resumeSuspended (pat_at hp hg) c hq c2⟩
    | some gs =>
      obtain ⟨h3, h2⟩ := o.st g gs hp
      rw [hg] at h2
      cases gs with
      | suspended k1 l1 c1 p1 fs1 cl1 =>
        have e := Option.some.inj h2
        injection e with e1
        rw [e1] at h1
        exact (no_unsup h1).elim
      | _ => cases h3
  | resumeJustStarted hg hv _ ih =>
    intro o n
    obtain ⟨a, b, c⟩ := ih o n
    exact ⟨a, b, .resumeJustStarted (pat_at (o.none_of hg rfl) hg) hv c⟩
  | resumeThrowFresh hg _ ih =>
    intro o n
    have hp := o.none_of hg rfl
    obtain ⟨a, b, c⟩ := ih (o.set hp True.intro) n
    rw [← pat_set hp] at c
    exact ⟨a, b, .resumeThrowFresh (pat_at hp hg) c⟩
  | resumeRunning hg _ ih =>
    intro o n
    obtain ⟨a, b, c⟩ := ih o n
    exact ⟨a, b, .resumeRunning (pat_at (o.none_of hg rfl) hg) c⟩
  | resumeFinished hg _ ih =>
    intro o n
    obtain ⟨a, b, c⟩ := ih o n
    exact ⟨a, b, .resumeFinished (pat_at (o.none_of hg rfl) hg) c⟩
  | segRet _ _ ih1 ih2 =>
    intro o n
    obtain ⟨a, _, c⟩ := ih1 o rfl
    obtain ⟨a2, b2, c2⟩ := ih2 a (nog_ret n)
    exact ⟨a2, b2, .segRet c c2⟩
  | segGen => exact fun _ n => by cases (show some _ = none from n)
  | segSuspOut hs _ ih =>
    intro o n
    obtain ⟨a, b, c⟩ := ih o rfl
    exact ⟨a, nog_app b n, .segSuspOut hs c⟩
  | segSuspGen hs => exact fun _ n => by rw [show splitAtGen _ = none from n] at hs; cases hs
/-- the same of what is wanted behind a term -/
theorem wp_fr {α : Type} (M : Model) (Γ : Ctx) (P : Pt) (t : Sem α) : ∀ (Q : α → Pos → Shared → Prop) (E : Value → Pos → Shared → Prop) (p : Pos) (s : Shared), Ok P s → wp M Γ t Q E p s →
    wp M Γ t (fun a p' s' => ∃ z, Ok P z ∧ s' = pat P z ∧ Q a p' z) (fun x p' s' => ∃ z, Ok P z ∧ s' = pat P z ∧ E x p' z) p (pat P s) := by
  induction t with
  | pure a => exact fun Q E p s o h => ⟨s, o, rfl, h⟩
  | raise e => exact fun Q E p s o h => ⟨s, o, rfl, h⟩
  | unsupported _ => exact fun Q E p s _ h => h
  | finish _ => exact fun Q E p s _ h => h
  | rule _ k ih => exact fun Q E p s o h => ih () Q E p s o h
  | «at» p' k ih => exact fun Q E p s o h => ih () Q E p' s o h
  | load a _ k ih => exact fun Q E p s o ⟨ob, ho, h⟩ => ⟨ob, ho, ih ob Q E p s o h⟩
  | update a _ f k ih => exact fun Q E p s o h => ⟨h.1, ih () Q E p { s with heap := s.heap.update a f } ⟨o.st, o.fr⟩ h.2⟩
  | loadIfAlive a k ih => exact fun Q E p s o h => ih _ Q E p s o h
  | point _ k ih => exact fun Q E p s o h => ih () Q E p s o h
  | register _ _ => exact fun Q E p s _ h => h
  | alloc ob k ih => exact fun Q E p s o h => ih s.heap.objs.size Q E p { s with heap := s.heap.push ob } ⟨o.st, o.fr⟩ h
  | fresh k ih => exact fun Q E p s o h => ih s.toks Q E p { s with toks := s.toks + 1 } ⟨o.st, o.fr⟩ h
  | ask k ih => exact fun Q E p s o h => ih _ Q E p s o h
  | choose src m k ih => exact fun Q E p s o h => ⟨h.1, ih (M.w.draws src (s.drawn.get src) % m) Q E p { s with drawn := s.drawn.bump src } ⟨o.st, o.fr⟩ h.2⟩
  | os q _ k ih => exact fun Q E p s o h => ih (Os.step s.os q).2 Q E p { s with os := (Os.step s.os q).1 } ⟨o.st, o.fr⟩ h
  | call c hd _ _ k ih =>
    intro Q E p s o h
    obtain ⟨r, s', hr, h⟩ := h
    obtain ⟨a, _, c'⟩ := sim hr o rfl
    exact ⟨r, pat P s', c', ih r Q E p s' a h⟩
  | handled own k ih => exact fun Q E p s o h => ih _ Q E p s o h
  | genState g k ih =>
    intro Q E p s o h
    obtain ⟨st, hs, h⟩ := h
    have h' := ih _ Q E p s o h
    cases hp : P g with
    | none => exact ⟨st, pat_at hp hs, h'⟩
    | some gs =>
      obtain ⟨_, h2⟩ := o.st g gs hp
      rw [hs] at h2
      cases h2
      rw [seen_stk] at h'
      exact ⟨gs, by rw [pat_get, hs, hp]; rfl, h'⟩
  | newGen c k ih =>
    intro Q E p s o h
    have h' := ih _ Q E p _ o.push h
    rw [pat_push o] at h'
    show wp M Γ (k (pat P s).gens.size) _ _ p _
    rw [pat_size]; exact h'
  | resume g r _ k ih =>
    intro Q E p s o h
    obtain ⟨res, s', hw, h⟩ := h
    suffices x : Ok P s' ∧ Wakes M Γ p g r (pat P s) res (pat P s') from ⟨res, pat P s', x.2, ih res Q E p s' x.1 h⟩
    cases hg : s.gens[g]? with
    | none =>
      unfold Wakes at hw
      rw [hg] at hw
      exact hw.elim
    | some st =>
      unfold Wakes at hw ⊢
      rw [hg] at hw
      cases st with
      | fresh c =>
        have hp := o.none_of hg rfl
        rw [pat_at hp hg]
        dsimp only at hw ⊢
        split at hw
        · obtain ⟨e₁, s₁, hr, hq, h1, rfl⟩ := hw
          obtain ⟨a, b, c'⟩ := sim hr (o.set hp True.intro) rfl
          rw [← pat_set hp] at c'
          exact ⟨a.set hp (nogS_gen b), e₁, _, c', hq, h1, (pat_set hp).symm⟩
        · obtain ⟨h1, rfl⟩ := hw
          exact ⟨o, h1, rfl⟩
        · obtain ⟨h1, rfl⟩ := hw
          exact ⟨o.set hp True.intro, h1, (pat_set hp).symm⟩
      | suspended k₀ l₀ c₀ p₀ fs cl =>
        cases hp : P g with
        | none =>
          rw [pat_at hp hg]
          dsimp only at hw ⊢
          obtain ⟨e₁, s₁, hr, hq, h1, rfl⟩ := hw
          obtain ⟨a, b, c'⟩ := sim hr (o.set hp True.intro) (o.fr g _ hp hg)
          rw [← pat_set hp] at c'
          exact ⟨a.set hp (nogS_gen b), e₁, _, c', hq, h1, (pat_set hp).symm⟩
        | some gs =>
          obtain ⟨h3, h2⟩ := o.st g gs hp
          rw [hg] at h2
          obtain ⟨e₁, s₁, hr, _⟩ := hw
          cases gs with
          | suspended k1 l1 c1 p1 fs1 cl1 =>
            have e := Option.some.inj h2
            injection e with e1
            rw [e1] at hr
            exact (no_unsup hr).elim
          | _ => cases h3
      | running =>
        rw [pat_at (o.none_of hg rfl) hg]
        dsimp only at hw ⊢
        obtain ⟨h1, rfl⟩ := hw
        exact ⟨o, h1, rfl⟩
      | finished =>
        rw [pat_at (o.none_of hg rfl) hg]
        dsimp only at hw ⊢
        obtain ⟨h1, rfl⟩ := hw
        exact ⟨o, h1, rfl⟩
  | yield _ _ _ _ => exact fun Q E p s _ h => h
  | stack k ih => exact fun Q E p s o h => ih _ Q E p s o h
  | fork _ _ => exact fun Q E p s _ h => h
  | thread k ih => exact fun Q E p s o h => ih _ Q E p s o h
  | await _ _ _ _ _ => exact fun Q E p s _ h => h
/-- all that sleep, so that they can't be woken -/
def calmS (s : Shared) : Shared := { s with gens := s.gens.map stk }
def calmP (s : Shared) : Pt := fun j => match s.gens[j]? with
  | some gs => if isSus gs = true then some gs else none
  | none => none
theorem calm_ok (s : Shared) : Ok (calmP s) (calmS s) := by
  refine ⟨fun j gs e => ?_, fun j x e h => ?_⟩
  · unfold calmP at e
    split at e
    · rename_i g hg
      split at e
      · rename_i hs
        cases e
        exact ⟨hs, by simp [calmS, hg]⟩
      · cases e
    · cases e
  · unfold calmP at e
    simp only [calmS, Array.getElem?_map] at h
    cases hg : s.gens[j]? with
    | none => rw [hg] at h; cases h
    | some g =>
      rw [hg] at h e
      cases h
      cases g with
      | suspended => cases e
      | _ => exact True.intro
theorem calm_pat (s : Shared) : pat (calmP s) (calmS s) = s := by
  obtain ⟨h, g, d, t, o⟩ := s
  unfold pat calmS
  congr 1
  refine Array.ext_getElem? fun j => ?_
  simp only [Array.getElem?_mapIdx, Array.getElem?_map]
  cases hg : g[j]? with
  | none => rfl
  | some x =>
    cases x <;> simp [calmP, hg, isSus, stk]
/-- the frame: code that runs well where nothing that sleeps can be woken leaves all that sleeps as it is -/
theorem frame {α : Type} {M : Model} {A : Around} {t : Sem α} {Q : α → Shared → Prop} {E : Value → Shared → Prop} {s : Shared} (h : wpAny M A t Q E (calmS s)) :
    wpAny M A t (fun a s' => ∃ z, Ok (calmP s) z ∧ s' = pat (calmP s) z ∧ Q a z) (fun x s' => ∃ z, Ok (calmP s) z ∧ s' = pat (calmP s) z ∧ E x z) s := fun Γ p hΓ => by
  have := wp_fr M Γ (calmP s) t _ _ p (calmS s) (calm_ok s) (h Γ p hΓ)
  rw [calm_pat] at this
  exact this
/-- one that sleeps is there as it was -/
theorem kept {s z : Shared} {g : Nat} {gs : GenState} (o : Ok (calmP s) z) (h : s.gens[g]? = some gs) (hs : isSus gs = true) : (pat (calmP s) z).gens[g]? = some gs := by
  have hp : calmP s g = some gs := by unfold calmP; rw [h]; exact if_pos hs
  obtain ⟨_, h2⟩ := o.st g gs hp
  rw [pat_get, h2, hp]; rfl
theorem allBare_calm {s : Shared} (h : ∀ y ∈ s.gens, y.bare = true) : ∀ y ∈ (calmS s).gens, y.bare = true := fun y hy => by
  obtain ⟨x, hx, rfl⟩ := Array.mem_map.mp hy
  rw [bare_stk]; exact h x hx
theorem allBare_pat {s z : Shared} (o : Ok (calmP s) z) (hz : ∀ y ∈ z.gens, y.bare = true) : ∀ y ∈ (pat (calmP s) z).gens, y.bare = true := fun y hy => by
  obtain ⟨j, hj⟩ := Array.mem_iff_getElem?.mp hy
  rw [pat_get] at hj
  cases e : z.gens[j]? with
  | none => rw [e] at hj; cases hj
  | some x =>
    rw [e] at hj
    have hx := hz x (Array.mem_of_getElem? e)
    cases hp : calmP s j with
    | none => rw [hp] at hj; cases hj; exact hx
    | some gs =>
      rw [hp] at hj
      cases hj
      obtain ⟨_, h2⟩ := o.st j gs hp
      rw [e] at h2
      cases h2
      rw [← bare_stk]; exact hx
end GFr

set_option Elab.async false
set_option linter.all false
set_option maxRecDepth 100000
set_option maxHeartbeats 1000000
/-! GenSeg: a for loop within a generator; runs leave the generators bare. -/
namespace GFr
open PySem
open Sem (wp)
abbrev AllB (gs : Array GenState) : Prop := ∀ y ∈ gs, y.bare = true
theorem allB_set {s : Shared} {g : Nat} {x : GenState} (h : AllB s.gens) (hx : x.bare = true) : AllB (s.setGen g x).gens := fun y hy => by
  rcases Array.mem_or_eq_of_mem_setIfInBounds hy with z | z
  · exact h y z
  · rw [z]; exact hx
theorem allB_push {gs : Array GenState} {x : GenState} (h : AllB gs) (hx : x.bare = true) : AllB (gs.push x) := fun y hy => by
  rcases Array.mem_push.mp hy with z | z
  · exact h y z
  · rw [z]; exact hx
theorem runs_bare {M : Model} {Γ : Ctx} {p : Pos} {t : Sem PySem.Fin} {fs : List Frame} {s s' : Shared} {e : End} (h : Runs M Γ p t fs s e s') : AllB s.gens → AllB s'.gens := by
  induction h with
  | call _ _ i1 i2 => exact fun h => i2 (i1 h)
  | resumeFresh _ _ hq _ i1 i2 => exact fun h => i2 (allB_set (i1 (allB_set h rfl)) (End.bare_of_quiet hq))
  | resumeSuspended _ _ hq _ i1 i2 => exact fun h => i2 (allB_set (i1 (allB_set h rfl)) (End.bare_of_quiet hq))
  | resumeThrowFresh _ _ ih => exact fun h => ih (allB_set h rfl)
  | newGen _ ih => exact fun h => ih (allB_push h rfl)
  | segRet _ _ i1 i2 => exact fun h => i2 (i1 h)
  | segGen _ _ i1 i2 => exact fun h => i2 (allB_set (i1 h) rfl)
  | segSuspGen _ _ hq _ i1 i2 => exact fun h => i2 (allB_set (i1 h) (End.bare_of_quiet hq))
  | _ => first | (intro h; exact h) | (rename_i ih; exact fun h => ih h)
theorem wakes_bare {M : Model} {Γ : Ctx} {p : Pos} {g : Nat} {r : Resume} {s s' : Shared} {res : GenResult} (h : Wakes M Γ p g r s res s') (hb : AllB s.gens) : AllB s'.gens := by
  unfold Wakes at h
  split at h
  · exact h.elim
  · split at h
    · obtain ⟨e₁, s₁, hr, hq, _, rfl⟩ := h
      exact allB_set (runs_bare hr (allB_set hb rfl)) (End.bare_of_quiet hq)
    · rw [h.2]; exact hb
    · rw [h.2]; exact allB_set hb rfl
  · obtain ⟨e₁, s₁, hr, hq, _, rfl⟩ := h
    exact allB_set (runs_bare hr (allB_set hb rfl)) (End.bare_of_quiet hq)
  · rw [h.2]; exact hb
  · rw [h.2]; exact hb
theorem wp_bare {α : Type} (M : Model) (Γ : Ctx) (t : Sem α) : ∀ (Q : α → Pos → Shared → Prop) (E : Value → Pos → Shared → Prop) (p : Pos) (s : Shared), AllB s.gens → wp M Γ t Q E p s →
    wp M Γ t (fun a p' s' => AllB s'.gens ∧ Q a p' s') (fun e p' s' => AllB s'.gens ∧ E e p' s') p s := by
  induction t with
  | load a _ k ih => exact fun Q E p s hb ⟨o, ho, h⟩ => ⟨o, ho, ih o Q E p s hb h⟩
  | update a _ f k ih => exact fun Q E p s hb h => ⟨h.1, ih () Q E p { s with heap := s.heap.update a f } hb h.2⟩
  | choose src m k ih => exact fun Q E p s hb h => ⟨h.1, ih (M.w.draws src (s.drawn.get src) % m) Q E p { s with drawn := s.drawn.bump src } hb h.2⟩
  | call c hd _ _ k ih => exact fun Q E p s hb ⟨r, s', hr, h⟩ => ⟨r, s', hr, ih r Q E p s' (runs_bare hr hb) h⟩
  | genState g k ih => exact fun Q E p s hb ⟨st, hs, h⟩ => ⟨st, hs, ih _ Q E p s hb h⟩
  | newGen c k ih => exact fun Q E p s hb h => ih s.gens.size Q E p { s with gens := s.gens.push (.fresh c) } (allB_push hb rfl) h
  | resume g r _ k ih => exact fun Q E p s hb ⟨res, s', hw, h⟩ => ⟨res, s', hw, ih res Q E p s' (wakes_bare hw hb) h⟩
  | _ => first
    | exact fun Q E p s hb h => ⟨hb, h⟩
    | exact fun Q E p s hb h => h
    | (rename_i ih; exact fun Q E p s hb h => ih _ Q E _ _ hb h)
/-- a run leaves bare what was bare -/
theorem wpAny_bare {α : Type} {M : Model} {A : Around} {s : Shared} {t : Sem α} {Q : α → Shared → Prop} {E : Value → Shared → Prop} (hb : AllB s.gens)
    (h : wpAny M A t (fun a s' => AllB s'.gens → Q a s') (fun e s' => AllB s'.gens → E e s') s) : wpAny M A t Q E s :=
  wpAny_mono (fun Γ p hΓ => wp_bare M Γ t _ _ p s hb (h Γ p hΓ) : wpAny M A t (fun a s' => AllB s'.gens ∧ (AllB s'.gens → Q a s')) (fun e s' => AllB s'.gens ∧ (AllB s'.gens → E e s')) s)
    (fun _ _ x => x.2 x.1) fun _ _ x => x.2 x.1

/-! ### a generator is asked for its next item: it sleeps again, or it has ended -/
/-- y goes on, if there is a turn left -/
def gos (M : Model) (A : Around) (R : GenEnd) (Y : Protocol) (y : GenState) : Nat → Resume → Shared → Prop
  | 0, _, _ => False
  | m + 1, r, s => y.Goes M A R Y m r s
section
variable {M : Model} {A : Around} {R : GenEnd} {Y : Protocol} {n g : Nat} {E : Value → Shared → Prop} {s : Shared} {gs : GenState}
theorem resumeS {r : Resume} {l : List Value} {α : Type} {k : GenResult → Sem α} {Q : α → Shared → Prop} (h0 : s.gens[g]? = some gs) (h1 : gs.Goes M A R Y n r (s.setGen g .running))
    (hR : ∀ x s₁, R n (s.setGen g .running) x s₁ → wpAny M A (k (End.ret x).result) Q E (s₁.setGen g .finished))
    (hY : ∀ v s₁ y, isSus y = true → Y (n - 1) (s.setGen g .running) v s₁ (gos M A R Y y n) → wpAny M A (k (.yielded v)) Q E (s₁.setGen g y)) :
    wpAny M A (.resume g r l k) Q E s := by
  intro Γ p hΓ
  have woken : ∀ c, (Γ.wake c p).Woken A := fun c => hΓ.wake c p
  have key : ∀ e₁ s₁, SegEnd R Y n (Seg.next M A R Y n) (s.setGen g .running) e₁ s₁ → e₁.quiet = true ∧ wp M Γ (k e₁.result) (fun a _ s' => Q a s') (fun e _ s' => E e s') p (s₁.setGen g e₁.genState) := by
    rintro (x | ⟨v, g₀, l₀, k₀, c₀, p₀, fs₀⟩) s₁ he
    · exact ⟨rfl, hR x s₁ he Γ p hΓ⟩
    · refine ⟨he.1, hY v s₁ (.suspended k₀ l₀ c₀ p₀ fs₀ _) rfl ?_ Γ p hΓ⟩
      have := he.2
      cases n <;> exact this
  rw [Sem.wp_resume]
  match gs, h0, h1 with
  | .fresh c, h0, h1 =>
    obtain ⟨rfl, hs⟩ := h1
    obtain ⟨e₁, s₁, hr, he⟩ := seg_iff.mp hs _ p rfl (woken c)
    exact ⟨_, _, by unfold Wakes; rw [h0]; exact ⟨e₁, s₁, hr, (key e₁ s₁ he).1, rfl, rfl⟩, (key e₁ s₁ he).2⟩
  | .suspended k₀ l₀ c₀ p₀ fs₀ cl, h0, h1 =>
    obtain ⟨e₁, s₁, hr, he⟩ := seg_iff.mp h1 _ p₀ rfl (woken c₀)
    exact ⟨_, _, by unfold Wakes; rw [h0]; exact ⟨e₁, s₁, hr, (key e₁ s₁ he).1, rfl, rfl⟩, (key e₁ s₁ he).2⟩
  | .running, _, h1 => exact h1.elim
  | .finished, _, h1 => exact h1.elim
end
section
variable {prog : Program} {w : World} {A : Around} {E : Value → Shared → Prop} {s : Shared}
theorem nextS {a : Addr} {g n : Nat} {gs : GenState} {P : Nat → Shared → Shared → Prop} {Y : Protocol} {Q : Option Value → Shared → Prop} (hh : A.handled = none) (hl : s.heap.NoLimit) (hroom : A.depth < recursionLimit) (hG : s.heap.IsGen a g) (h0 : s.gens[g]? = some gs)
    (h1 : gs.Goes (model prog w) A.in1 (fun n s₀ r s₁ => r = .ok (.ret .none) ∧ P n s₀ s₁) Y n (.send .none) (s.setGen g .running))
    (hY : ∀ v s₁ y, isSus y = true → Y (n - 1) (s.setGen g .running) v s₁ (gos (model prog w) A.in1 (fun n s₀ r s₁ => r = .ok (.ret .none) ∧ P n s₀ s₁) Y y n) → Q (some v) (s₁.setGen g y))
    (hP : ∀ s₁, P n (s.setGen g .running) s₁ → ∀ h', (∀ b o, s₁.heap.get? b = some o → h'.get? b = some o) → Q none { s₁.setGen g .finished with heap := h' }) : wpAny (model prog w) A (pyNext (.ref a)) Q E s := by
  unfold pyNext
  refine wpAny_bind (wpAny_attempt (wpAny_callSpecial?_slot hG.typeIs slot_gen_next (wpAny_call_entry slot_gen_next hG.typeIs entry_gen_next ?_ (args_gen_next _))))
  show wpAny _ A.in1 (Builtin.Generator.genWake (.ref a) (.send .none)) _ _ s
  unfold Builtin.Generator.genWake
  refine wpAny_bind (wpAny_holding (wpAny_genNumber hG (wpAny_bind (wpAny_genState h0 ?_))))
  cases gs with
  | running => exact h1.elim
  | finished => exact h1.elim
  | _ =>
    refine wpAny_bind (wpAny_roomToWake hl hroom ?_)
    show wpAny _ A.in1 (.resume g (.send .none) [] _) _ _ s
    refine resumeS h0 h1 (fun x s₁ hx => ?_) fun v s₁ y hy hv => wpAny_pure ⟨v, rfl, wpAny_pure (hY v s₁ y hy hv)⟩
    obtain ⟨rfl, hp⟩ := hx
    show wpAny _ A.in1 (newExc (.type "StopIteration") [] >>= _) _ _ _
    refine wpAny_bind ?_
    simp only [newExc, newTuple]
    refine wpAny_bind (wpAny_newObj_type ?_ (by size_fits))
    refine wpAny_bind (m := firstArgMember _ _) (wpAny_of_eq (a := Value.none) (by first | rfl | (simp only [firstArgMember]; rfl)) (wpAny_newObj_type ?_ (by size_fits)))
    simp only [raiseNew]
    refine wpAny_bind (wpAny_bind (wpAny_handled ?_))
    rw [show A.in1.handled = none from hh]
    refine wpAny_throw (wpAny_bind (wpAny_isInstance (T := "StopIteration") (b := true) ⟨_, Heap.get?_push_size _ rfl, rfl⟩ isSubtype_stop ?_))
    exact wpAny_pure (hP s₁ hp _ fun b o hb => Heap.get?_push_of_some _ (Heap.get?_push_of_some _ hb))
end
/-! ### for, within a generator, where nothing is raised -/
abbrev NoX : Value → Shared → Prop := fun _ _ => False
section
variable {prog : Program} {w : World} {A : Around} {R : GenEnd} {Y : Protocol} {n : Nat} {s₀ : Shared} {fs : List Frame} {s : Shared} {env : Env}
/-- what follows a turn -/
def turnK (target : Expr) (it : Value) (body : List Stmt) (env : Env) : Flow → Sem PySem.Fin := fun f => match f with
  | .next | .cont => .pure (.again (.forLoop target it body [] env))
  | .brk => .pure (.done .next)
  | .ret v => .pure (.done (.ret v))
def turnJ (env : Env) : Value → Sem PySem.Fin := fun e => (do noteFrame e env; theTreesLotGoes e : Sem Unit).wrap (fun _ => .raise e) .raise id id
theorem seg_forLoop {target : Expr} {it : Value} {body : List Stmt}
    (h : wpAny (model prog w) (A.over (.forLoop target it body [] env) fs) (pyNext it) (fun r s' => match r with
      | none => Seg (model prog w) A R Y n s₀ (.forLoop target it body [] env) (.pure (.again (.block [] env))) fs s'
      | some v => wpAny (model prog w) (A.over (.forLoop target it body [] env) fs) (letOwnedTupleGo target it v) (fun _ s1 => wpAny (model prog w) (A.over (.forLoop target it body [] env) fs) (assign target env v)
          (fun _ s2 => Seg (model prog w) A R Y n s₀ (.forLoop target it body [] env) ((execs body env).wrap (turnK target it body env) (turnJ env) id id) fs s2) NoX s1) NoX s') NoX s) :
    Seg (model prog w) A R Y n s₀ (.forLoop target it body [] env) ((model prog w).den (.forLoop target it body [] env)) fs s := by
  show Seg _ A R Y n s₀ _ ((forTurn target it body [] env).onRaise (fun x => do noteFrame x env; theTreesLotGoes x)) fs s
  unfold forTurn
  rw [Sem.onRaise_eq_wrap, Sem.bind_eq_wrap', Sem.wrap_wrap]
  refine seg_wrap (wpAny_standAt ?_)
  rw [Sem.bind_eq_wrap', Sem.wrap_wrap]
  refine seg_wrap (wpAny_onRaise (wpAny_mono h (fun r s' hr => ?_) fun _ _ x => x.elim))
  cases r with
  | none => exact hr
  | some v =>
    dsimp only at hr ⊢
    rw [Sem.bind_eq_wrap', Sem.wrap_wrap]
    refine seg_wrap (wpAny_mono hr (fun _ s1 h1 => ?_) fun _ _ x => x.elim)
    rw [Sem.bind_eq_wrap', Sem.wrap_wrap]
    refine seg_wrap (wpAny_mono h1 (fun _ s2 h2 => ?_) fun _ _ x => x.elim)
    rw [Sem.bind_eq_wrap', Sem.wrap_wrap]
    rw [Sem.wrap_congr (execs body env) _ _ (K' := turnK target it body env) (H' := turnJ env) (fun f => by cases f <;> rfl) (fun e => by
      first | exact Sem.bind_eq_wrap _ _ | (show (do noteFrame e env; theTreesLotGoes e : Sem Unit).bind (fun _ => .raise e) = _; rw [Sem.bind_eq_wrap]; rfl))]
    exact h2
end
section
variable {M : Model} {A : Around} {R : GenEnd} {Y : Protocol} {n : Nat} {s₀ : Shared} {c : Code} {fs : List Frame} {s : Shared} {env : Env} {K : Flow → Sem PySem.Fin} {J : Value → Sem PySem.Fin} {gd : Bool → Bool} {lv : List Value → List Value}
theorem seg_For {target iter : Expr} {body : List Stmt} {pos : Pos} (hs : ∀ x, foldedSetIterable iter env x = pure x := by intro _; rfl)
    (h : wpAny M (A.over c fs) (eval iter env) (fun x s1 => wpAny M (A.over c fs) (pyIter x) (fun it s2 => ∀ p, Seg M A R Y n s₀ (.forLoop target it body [] env) (M.den (.forLoop target it body [] env))
      (.ret (fun r => ((match r with | .ok f => (.pure f : Sem Flow) | .error e => .raise e).onRaise (L2.cameBack env)).wrap K J gd lv) none (gd false) (lv []) c p [] :: fs) s2) NoX s1) NoX s) :
    Seg M A R Y n s₀ c ((exec (.For target iter body [] pos) env).wrap K J gd lv) fs s := by
  rw [exec_For]
  rw [Sem.bind_eq_wrap', Sem.wrap_wrap]
  refine seg_wrap (wpAny_standAt ?_)
  rw [Sem.bind_eq_wrap', Sem.wrap_wrap]
  refine seg_wrap (wpAny_mono h (fun x s1 h1 => ?_) fun _ _ x => x.elim)
  rw [Sem.bind_eq_wrap', Sem.wrap_wrap]
  refine seg_wrap (wpAny_of_eq (hs x) ?_)
  rw [Sem.bind_eq_wrap', Sem.wrap_wrap]
  refine seg_wrap (wpAny_standAt ?_)
  rw [Sem.bind_eq_wrap', Sem.wrap_wrap]
  refine seg_wrap (wpAny_holding (wpAny_mono h1 (fun it s2 h2 => ?_) fun _ _ x => x.elim))
  exact seg_call h2
end
end GFr

set_option Elab.async false
set_option linter.all false
set_option maxRecDepth 100000
set_option maxHeartbeats 1000000
/-! GenEs: the generator that yields the sides of a ring, segment by segment. -/
namespace GFr
open PySem PySem.Spec PyProof.Rows L2 GenW
open Sem (wp)
/-- a list or a tuple of these values -/
def Rg (h : Heap) (p : Addr) (its : List Value) : Prop := h.IsList p its.toArray ∨ IsTup h p its.toArray
theorem Rg.at {h h' : Heap} {p : Addr} {its : List Value} (x : Rg h p its) (k : ∀ o, h.get? p = some o → h'.get? p = some o) : Rg h' p its := by
  rcases x with x | ⟨o, ho, r⟩
  · exact .inl (x.at k)
  · exact .inr ⟨o, k o ho, r⟩
/-- the frame of the generator -/
structure GF (base : Heap) (env : Env) (p : Addr) (its : List Value) (kv : Option Value) (s : Shared) : Prop where
  ns : ∃ m, s.heap.Ns env.locals m ∧ m "ring" = some (.ref p) ∧ m "k" = kv
  bk : ∀ b o, base.get? b = some o → s.heap.get? b = some o
  rg : Rg s.heap p its
structure GX (K : PySem.W.Frag) (mg : Str → Option Value) (base : Heap) (env : Env) : Prop where
  mod : Mod K mg base
  kind : env.scope.kind = .function
  glob : env.globals = mainGlobals
  blt : env.builtins = builtinsNs
  kr : env.kindOf "ring" = some .local
  kk : env.kindOf "k" = some .local
  kl : env.kindOf "len" = some .globalImplicit
  kg : env.kindOf "range" = some .globalImplicit
  ml : mg "len" = none
  mr : mg "range" = none
section
variable {prog : Program} {w : World} {A : Around} {E : Value → Shared → Prop} {K : PySem.W.Frag} {mg : Str → Option Value} {base : Heap} {env : Env} {p : Addr} {its : List Value} {kv : Option Value} {s : Shared} {Q : Value → Shared → Prop}
theorem GF.tok (F : GF base env p its kv s) (t : Nat) : GF base env p its kv { s with toks := t } := ⟨F.ns, F.bk, F.rg⟩
theorem ev_ring {pos : Pos} (X : GX K mg base env) (F : GF base env p its kv s) (h : Q (.ref p) s) : wpAny (model prog w) A (eval (.Name "ring" pos) env) Q E s := by
  obtain ⟨m, h1, h2, _⟩ := F.ns
  exact wpAny_Name (wpAny_loadName_local X.kind X.kr h1 h2 h) (by decide)
theorem ev_k {pos : Pos} {v : Value} (X : GX K mg base env) (F : GF base env p its (some v) s) (h : Q v s) : wpAny (model prog w) A (eval (.Name "k" pos) env) Q E s := by
  obtain ⟨m, h1, _, h2⟩ := F.ns
  exact wpAny_Name (wpAny_loadName_local X.kind X.kk h1 h2 h) (by decide)
theorem ev_blt {x : Str} {u : Value} {pos : Pos} (X : GX K mg base env) (F : GF base env p its kv s) (hk : env.kindOf x = some .globalImplicit) (hm : mg x = none) (hv : bootBuiltins x = some u) (h : Q u s) (hn : x ≠ "__name__" := by decide) (hd : (x == ("__debug__" : Str)) = false := by decide) :
    wpAny (model prog w) A (eval (.Name x pos) env) Q E s := by
  obtain ⟨mb, h1, h2⟩ := X.mod.blt
  exact Calls.Name_function_global X.kind hk (Calls.loadGlobal_builtin (by rw [X.glob]; exact X.mod.glob.keeps F.bk) hm (by rw [X.blt]; exact h1.keeps F.bk) ((h2 x hn).trans hv) h) hd
theorem rg_len (hr : Rg s.heap p its) (hz : its.length < 2 ^ 62) (h : ∀ t tk, Q (.int its.length t) { s with toks := tk }) : wpAny (model prog w) A (call (.builtin "len") [.ref p]) Q E s := by
  have hz' : ((its.toArray.size : Nat) : Int) < 2 ^ 63 := by rw [List.size_toArray]; omega
  have q : ∀ t tk, Q (.int its.toArray.size t) { s with toks := tk } := fun t tk => by rw [List.size_toArray]; exact h t tk
  rcases hr with hr | hr
  · exact Calls.call_len_list hr hz' (q _ _)
  · exact len_tuple hr hz' (q _ _)
theorem rg_item {value slice : Expr} {k : Nat} {u : Tok} {x : Value} (hr : Rg s.heap p its) (hz : its.length < 2 ^ 62) (hx : its[k]? = some x) (h : Q x s) (hs : subscripted slice false (.ref p) (.int (k : Int) u) = operate [.ref p, .int (k : Int) u] (getItem (.ref p) (.int (k : Int) u))) :
    wpAny (model prog w) A (subscriptTail value slice (.ref p) (.int (k : Int) u)) Q E s := by
  have hk : k < its.length := (List.getElem?_eq_some_iff.mp hx).1
  rcases hr with hr | hr
  · exact item_listR hr (by omega) (by omega) (by simpa using hx) h hs
  · exact subscriptTail_builtinR (x := x) hr.typeIs slot_tuple_getitem.lookup
      (getItem_tuple (j := k) (Q := fun r s' => r = x ∧ Q r s') hr (by omega) (by omega) (by rw [seqIndex_of (by omega) (by rw [List.size_toArray]; omega)]; simp) (by simpa using hx) ⟨rfl, h⟩) hs
theorem ev_len {p1 p2 p3 : Pos} (X : GX K mg base env) (F : GF base env p its kv s) (hz : its.length < 2 ^ 62) (h : ∀ t tk, Q (.int its.length t) { s with toks := tk })
    (he : starEach [.Name "ring" p2] env = (false, eval (.Name "ring" p2) env) :: starEach [] env := by rfl) :
    wpAny (model prog w) A (eval (.Call (.Name "len" p1) [.Name "ring" p2] [] p3) env) Q E s := by
  refine wpAny_Call_Name_kw (ev_blt X F X.kl X.ml boot_len ?_)
  refine PyProof.Rows.callWith_builtin1 ?_ he rfl
  rw [he]
  exact Calls.spliced_cons (ev_ring X F (Calls.spliced_nil (rg_len F.rg hz h)))
theorem ev_pair {p1 p2 p3 p4 p5 p6 p7 p8 p9 p10 p11 p12 p13 : Pos} {j1 j2 : Nat} {i : Nat} {t : Tok} {x y : Value} (X : GX K mg base env) (F : GF base env p its (some (.int (i : Int) t)) s) (hz : its.length < 2 ^ 62) (hx : its[i]? = some x) (hy : its[(i + 1) % its.length]? = some y)
    (h : ∀ tk, Q (.ref s.heap.objs.size) { s with heap := s.heap.push { cls := .type "tuple", data := .seq #[x, y] }, toks := tk }) :
    wpAny (model prog w) A (eval (.Tuple [.Subscript (.Name "ring" p1) (.Name "k" p2) p3,
      .Subscript (.Name "ring" p4) (.BinOp (.BinOp (.Name "k" p5) .Add (.Constant (.int 1) j1 p6) p7) .Mod (.Call (.Name "len" p8) [.Name "ring" p9] [] p10) p11) p12] j2 p13) env) Q E s := by
  have hi : i < its.length := (List.getElem?_eq_some_iff.mp hx).1
  refine wpAny_Tuple_spliced ?_
  refine Calls.spliced_cons (x := eval (.Subscript (.Name "ring" p1) (.Name "k" p2) p3) env) (rest := backTo p13 (starEach [_] env)) ?_
  refine Subscript_ (ev_ring X F (ev_k X F (rg_item F.rg hz hx ?_ rfl)))
  refine Calls.spliced_cons (x := eval (.Subscript _ _ p12) env) (rest := backTo p13 (starEach [] env)) ?_
  refine Subscript_ (ev_ring X F (wpAny_BinOp (wpAny_BinOp (ev_k X F (wpAny_Constant_int (add_int ?_))))))
  refine ev_len X (F.tok _) hz fun t tk => ?_
  have e : (((i : Int) + 1).fmod (its.length : Int)) = (((i + 1) % its.length : Nat) : Int) := by
    rw [Int.fmod_eq_emod_of_nonneg _ (by omega)]
    push_cast
    rfl
  refine mod_int' (by omega) ?_
  rw [e]
  exact rg_item F.rg hz hy (Calls.spliced_nil ⟨by show 2 ≤ _; decide, h _⟩) rfl
end
/-- all but the frame's dict and the iterator stays -/
def KeepE (L it : Addr) (s₀ s : Shared) : Prop := (∃ h tk, s = { s₀ with heap := h, toks := tk }) ∧ ∀ b o, b ≠ L → b ≠ it → s₀.heap.get? b = some o → s.heap.get? b = some o
theorem KeepE.refl {L it : Addr} {s : Shared} : KeepE L it s s := ⟨⟨s.heap, s.toks, rfl⟩, fun _ _ _ _ h => h⟩
theorem KeepE.step {L it : Addr} {s₀ s : Shared} {h : Heap} {tk : Nat} (x : KeepE L it s₀ s) (k : ∀ b o, b ≠ L → b ≠ it → s.heap.get? b = some o → h.get? b = some o) : KeepE L it s₀ { s with heap := h, toks := tk } := by
  obtain ⟨⟨h0, t0, e⟩, y⟩ := x
  subst e
  exact ⟨⟨h, tk, rfl⟩, fun b o h1 h2 q => k b o h1 h2 (y b o h1 h2 q)⟩
/-- it is there, and no cell -/
def Ob (h : Heap) (b : Addr) : Prop := ∃ o, h.get? b = some o ∧ ∀ v, o.data ≠ .cell v
/-- a side is yielded -/
def YE (base : Heap) (L it p : Addr) (its : List Value) : Protocol := fun n s₀ v s kap => ∃ (i : Nat) (t : Addr) (x y : Value), n + (i + 1) = its.length ∧ its[i]? = some x ∧ its[(i + 1) % its.length]? = some y ∧ v = .ref t ∧ s₀.heap.objs.size ≤ t ∧
  s.heap.get? t = some { cls := .type "tuple", data := .seq #[x, y] } ∧ KeepE L it s₀ s ∧ Ob s.heap L ∧ Ob s.heap it ∧ t ≠ L ∧ t ≠ it ∧
  ∀ s'', (∀ b o, (b = L ∨ b = it) → s.heap.get? b = some o → s''.heap.get? b = some o) → Rg s''.heap p its → (∀ b o, base.get? b = some o → s''.heap.get? b = some o) → kap (.send .none) s''
def RE (L it : Addr) : GenEnd := fun n s₀ r s => r = .ok (.ret .none) ∧ n = 0 ∧ KeepE L it s₀ s
section
variable {prog : Program} {w : World} {A : Around} {K : PySem.W.Frag} {mg : Str → Option Value} {base : Heap} {env : Env} {p it : Addr} {its : List Value}
theorem ns_keep {h h' : Heap} {L : Addr} {m : Str → Option Value} (x : h.Ns L m) (k : ∀ o, h.get? L = some o → h'.get? L = some o) : h'.Ns L m := by
  obtain ⟨o, es, ep, ho, r⟩ := x
  exact ⟨o, es, ep, k o ho, r⟩
theorem es_loop {p1 p2 p3 p4 p5 p6 p7 p8 p9 p10 p11 p12 p13 pk yp ep : Pos} {j1 j2 : Nat} {fr : List Frame} (X : GX K mg base env)
    (body : List Stmt) (hbody : body = [.Expr (.Yield (some (.Tuple [.Subscript (.Name "ring" p1) (.Name "k" p2) p3,
      .Subscript (.Name "ring" p4) (.BinOp (.BinOp (.Name "k" p5) .Add (.Constant (.int 1) j1 p6) p7) .Mod (.Call (.Name "len" p8) [.Name "ring" p9] [] p10) p11) p12] j2 p13)) yp) ep])
    (hh : (A.over (.forLoop (.Name "k" pk) (.ref it) body [] env) fr).handled = none) (hsp : splitAtGen fr = none) (hgd : fr.any Frame.guarded = false) (hco : env.scope.isCoroutine = false) (hi : interactive env = false)
    (hLi : env.locals ≠ it) (hpL : p ≠ env.locals) (hpi : p ≠ it) (hbL : base.get? env.locals = none) (hbi : base.get? it = none) (hz : its.length < 2 ^ 62)
    (hend : ∀ c s₀ s, KeepE env.locals it s₀ s → Seg (model prog w) A (RE env.locals it) (YE base env.locals it p its) 0 s₀ c (.pure (.done .next)) fr s) :
    ∀ (r i n : Nat) (s₀ s : Shared) (kv : Option Value), i + r = its.length → n + i = its.length → KeepE env.locals it s₀ s → s₀.heap.objs.size ≤ s.heap.objs.size → GF base env p its kv s → IsRangeIter s.heap it (0 + ((i : Nat) : Int) * 1) ((its.length : Int) - (i : Nat)) 1 →
      Seg (model prog w) A (RE env.locals it) (YE base env.locals it p its) n s₀ (.forLoop (.Name "k" pk) (.ref it) body [] env) ((model prog w).den (.forLoop (.Name "k" pk) (.ref it) body [] env)) fr s
  | 0, i, n, s₀, s, kv, hir, hni, hk, hsz0, F, hit => by
    have hn : n = 0 := by omega
    subst hn
    refine seg_forLoop (wpAny_pyNext_range_end hh hit (by omega) fun h' eb => ?_)
    refine seg_again rfl ?_
    exact hend _ s₀ _ (hk.step (tk := s.toks) fun b o _ h2 q => eb b o h2 q)
  | r + 1, i, n, s₀, s, kv, hir, hni, hk, hsz0, F, hit => by
    have hil : i < its.length := by omega
    obtain ⟨n, rfl⟩ : ∃ m, n = m + 1 := ⟨n - 1, by omega⟩
    have hx : its[i]? = some its[i] := List.getElem?_eq_getElem hil
    have hj : (i + 1) % its.length < its.length := Nat.mod_lt _ (by omega)
    have hy : its[(i + 1) % its.length]? = some its[(i + 1) % its.length] := List.getElem?_eq_getElem hj
    refine seg_forLoop (wpAny_pyNext_range_item hit (by omega) fun h' st' kk => ?_)
    obtain ⟨t, ht⟩ : ∃ t, t = s.toks := ⟨_, rfl⟩
    obtain ⟨tk, htk⟩ : ∃ t, t = s.toks + 1 := ⟨_, rfl⟩
    rw [← htk, ← ht]
    have k1 : ∀ b o, b ≠ it → s.heap.get? b = some o → h'.get? b = some o := fun b o hb e => kk.extBut b o hb e
    obtain ⟨m, hm, hm1, hm2⟩ := F.ns
    have hm' : h'.Ns env.locals m := ns_keep hm fun o q => k1 _ o hLi q
    refine wpAny_pure ?_
    refine wpAny_assign_Name (wpAny_storeName_local (s := { s with heap := h', toks := tk }) X.kk hm' (fun h'' hn'' sb => ?_) (by rw [X.kind]; rfl))
    have k2 : ∀ b o, b ≠ env.locals → h'.get? b = some o → h''.get? b = some o := fun b o hb e => (sb.2 b hb).trans e
    have F2 : GF base env p its (some (.int ((i : Nat) : Int) t)) { s with heap := h'', toks := tk + 1 } := by
      refine ⟨⟨_, hn'', ?_, ?_⟩, fun b o q => ?_, ?_⟩
      · show (if ("ring" : Str) = "k" then _ else m "ring") = _
        rw [if_neg (by decide)]; exact hm1
      · show (if ("k" : Str) = "k" then some _ else _) = _
        rw [if_pos rfl, Int.mul_one, Int.zero_add]
      · have hb1 : b ≠ env.locals := fun z => by rw [z, hbL] at q; cases q
        have hb2 : b ≠ it := fun z => by rw [z, hbi] at q; cases q
        exact k2 b o hb1 (k1 b o hb2 (F.bk b o q))
      · exact F.rg.at fun o q => k2 p o hpL (k1 p o hpi q)
    have st2 : IsRangeIter h'' it (0 + (((i + 1 : Nat) : Nat) : Int) * 1) ((its.length : Int) - ((i + 1 : Nat) : Nat)) 1 := by
      have e1 : (0 : Int) + ((i + 1 : Nat) : Int) * 1 = 0 + (i : Int) * 1 + 1 := by omega
      have e2 : (its.length : Int) - ((i + 1 : Nat) : Int) = (its.length : Int) - (i : Int) - 1 := by omega
      rw [e1, e2]
      exact k2 it _ (Ne.symm hLi) st'
    have hk2 : KeepE env.locals it s₀ { s with heap := h'', toks := tk + 1 } := hk.step fun b o h1 h2 q => k2 b o h1 (k1 b o h2 q)
    subst hbody
    refine seg_execs_cons (seg_Expr_Yield hsp rfl hgd ?_ hco hi)
    refine ev_pair X F2 hz hx hy fun tk2 => ?_
    intro kap hkap
    have hk3 : KeepE env.locals it s₀ { s with heap := h''.push { cls := .type "tuple", data := .seq #[its[i], its[(i + 1) % its.length]] }, toks := tk2 } := hk.step fun b o h1 h2 q => Heap.get?_push_of_some _ (k2 b o h1 (k1 b o h2 q))
    have oL : Ob (h''.push { cls := .type "tuple", data := .seq #[its[i], its[(i + 1) % its.length]] }) env.locals := by
      obtain ⟨m2, ⟨o, es, ep, q1, q2, _⟩, _⟩ := F2.ns
      exact ⟨o, Heap.get?_push_of_some _ q1, fun v z => by rw [q2] at z; cases z⟩
    have oi : Ob (h''.push { cls := .type "tuple", data := .seq #[its[i], its[(i + 1) % its.length]] }) it := ⟨_, Heap.get?_push_of_some _ st2, fun v z => by
      have z' : Data.fields _ = Data.cell v := z
      cases z'⟩
    have tL : h''.objs.size ≠ env.locals := by
      obtain ⟨m2, ⟨o, es, ep, q1, _⟩, _⟩ := F2.ns
      exact Nat.ne_of_gt (Heap.lt_size q1)
    have ti : h''.objs.size ≠ it := Nat.ne_of_gt (Heap.lt_size st2)
    have hsz : s₀.heap.objs.size ≤ h''.objs.size := by rw [sb.1]; show _ ≤ h'.objs.size; rw [kk.1]; exact hsz0
    refine ⟨i, h''.objs.size, _, _, by omega, hx, hy, rfl, hsz, Heap.get?_push_size _ rfl, hk3, oL, oi, tL, ti, fun s'' c1 cr c2 => hkap .none s'' ?_⟩
    refine seg_execs_nil (seg_again rfl ?_)
    have c3 : ∀ b o, (b = env.locals ∨ b = it) → h''.get? b = some o → s''.heap.get? b = some o := fun b o hb q => c1 b o hb (Heap.get?_push_of_some _ q)
    refine es_loop X _ rfl hh hsp hgd hco hi hLi hpL hpi hbL hbi hz hend r (i + 1) n s'' s'' (some (.int ((i : Nat) : Int) t)) (by omega) (by omega) KeepE.refl (Nat.le_refl _) ?_ (c3 it _ (.inr rfl) st2)
    obtain ⟨m2, q1, q2, q3⟩ := F2.ns
    exact ⟨⟨m2, ns_keep q1 fun o q => c3 _ o (.inl rfl) q, q2, q3⟩, c2, cr⟩
theorem es_start {p1 p2 p3 p4 p5 p6 p7 p8 p9 p10 p11 p12 p13 pk yp ep pr q1 q2 q3 pc pf : Pos} {j1 j2 : Nat} {s : Shared} {kv : Option Value} (X : GX K mg base env) (fb body : List Stmt) (hfb : fb = [.For (.Name "k" pk) (.Call (.Name "range" pr) [.Call (.Name "len" q1) [.Name "ring" q2] [] q3] [] pc) body [] pf])
    (hbody : body = [.Expr (.Yield (some (.Tuple [.Subscript (.Name "ring" p1) (.Name "k" p2) p3,
      .Subscript (.Name "ring" p4) (.BinOp (.BinOp (.Name "k" p5) .Add (.Constant (.int 1) j1 p6) p7) .Mod (.Call (.Name "len" p8) [.Name "ring" p9] [] p10) p11) p12] j2 p13)) yp) ep])
    (hh : (A.deeper env).handled = none) (hco : env.scope.isCoroutine = false) (hi : interactive env = false) (hLs : env.locals < s.heap.objs.size) (hps : p < s.heap.objs.size) (hpL : p ≠ env.locals) (hbL : base.get? env.locals = none) (hbs : base.objs.size ≤ s.heap.objs.size)
    (hit : s.heap.objs.size + 1 = it) (hz : its.length < 2 ^ 62) (F : GF base env p its kv s) :
    Seg (model prog w) A (RE env.locals it) (YE base env.locals it p its) its.length s (.func fb env) ((model prog w).den (.func fb env)) [] s := by
  subst hfb
  have hbi : base.get? it = none := by
    cases e : base.get? it with
    | none => rfl
    | some o => exact absurd (Nat.lt_of_lt_of_le (Heap.lt_size e) hbs) (by rw [← hit]; exact Nat.not_lt.mpr (Nat.le_succ _))
  refine seg_func (seg_execs_cons (seg_For (by intro _; rfl) ?_))
  rw [over_func]
  refine Call_ (ev_blt X F X.kg X.mr boot_range ?_)
  refine PyProof.Rows.callWith_type1 ?_ rfl rfl
  refine Calls.spliced_cons (x := eval (.Call (.Name "len" q1) [.Name "ring" q2] [] q3) env) (rest := backTo pc (starEach [] env)) (ev_len X F hz fun t tk => Calls.spliced_nil ?_)
  refine call_range_1 ?_
  refine wpAny_pyIter_range (IsRange.new ..) (small_one (by decide) (by decide) (by omega) (by omega)) ?_
  intro pp
  have hs2 : ∀ (o : Obj), (s.heap.push o).objs.size = it := fun o => by rw [Heap.size_push]; exact hit
  simp only [hs2]
  refine es_loop (fr := _ :: []) X body hbody (by rw [over_loop rfl rfl, over_func]; exact hh) rfl rfl hco hi (by rw [← hit]; exact Nat.ne_of_lt (Nat.lt_succ_of_lt hLs)) hpL (by rw [← hit]; exact Nat.ne_of_lt (Nat.lt_succ_of_lt hps)) hbL hbi hz (fun c s₀ s1 hk => ?_) its.length 0 its.length s _ kv (by omega) (by omega) ?_ ?_ ?_ ?_
  · refine seg_leaf (.ok .next) ?_
    exact seg_end (.ok (.ret .none)) ⟨rfl, rfl, hk⟩
  · exact KeepE.refl.step fun b o _ _ q => Heap.get?_push_of_some _ (Heap.get?_push_of_some _ q)
  · show _ ≤ ((s.heap.push _).push _).objs.size
    rw [Heap.size_push, Heap.size_push]; omega
  · obtain ⟨m, h1, h2, h3⟩ := F.ns
    have k : ∀ (o1 o2 : Obj) b o, s.heap.get? b = some o → ((s.heap.push o1).push o2).get? b = some o := fun o1 o2 b o q => Heap.get?_push_of_some _ (Heap.get?_push_of_some _ q)
    exact ⟨⟨m, ns_keep h1 fun o q => k _ _ _ o q, h2, h3⟩, fun b o q => k _ _ b o (F.bk b o q), F.rg.at fun o q => k _ _ p o q⟩
  · have e2 : ((its.length : Nat) : Int) - ((0 : Nat) : Int) = Builtin.Range.rangeSize 0 (its.length : Int) 1 := by rw [rangeSize_one]; split <;> omega
    have e1 : (0 : Int) + ((0 : Nat) : Int) * 1 = 0 := by simp
    rw [e1, e2]
    show Heap.get? _ it = some _
    rw [← hs2 { cls := .type "range", data := .fields #[.int 0 tk, .int (its.length : Int) t, .int 1 (tk + 1)] }]
    exact Heap.get?_push_size _ rfl
end
end GFr

set_option Elab.async false
set_option linter.all false
set_option maxRecDepth 100000
set_option maxHeartbeats 1000000
/-! GenFor: for .. in each_side(ring), the body by the readings of HandS. -/
namespace GFr
open PySem PySem.Spec PyProof.Rows L2 GenW
section
variable {X : Cx} {pins : List (Addr × Obj)} {σ : L2.St} {H : Hp} {s : Shared}
theorem inv_gens {G : Array GenState} (I : Inv X pins σ H s) (hG : AllBare G) : Inv X pins σ H { s with gens := G } :=
  ⟨I.ok, I.os, hG, I.base, I.loc, I.cell, I.free, I.freeC, I.pin, I.hok, I.len⟩
/-- the frame's dict and the iterator of a generator have turned -/
theorem inv_turn {G : Array GenState} {L it : Addr} {s₁ : Shared} (I : Inv X pins σ H s) (fL : FpOk X pins H L) (fi : FpOk X pins H it) (hk : ∀ b o, b ≠ L → b ≠ it → s.heap.get? b = some o → s₁.heap.get? b = some o) (hos : s₁.os = s.os) (hG : AllBare G) :
    Inv X pins σ H { s₁ with gens := G } := by
  have nL : ∀ b u, H b = some u → b ≠ L := fun b u e z => by rw [z, fL.1] at e; cases e
  have ni : ∀ b u, H b = some u → b ≠ it := fun b u e z => by rw [z, fi.1] at e; cases e
  have kk : ∀ b o, b ∉ [L, it] → s.heap.get? b = some o → s₁.heap.get? b = some o := fun b o hb q => hk b o (fun z => hb (by simp [z])) (fun z => hb (by simp [z])) q
  refine I.call' (ch := [L, it]) (s' := { s₁ with gens := G }) hos ⟨fun b o q n _ hx => kk b o hx q, fun b o q n _ hx => ⟨o.slots, kk b o hx q⟩, fun b o q n hx => n, fun b o q hx => ⟨o, kk b o hx q⟩, fun b xs q => q, fun b o u q => q, fun b ps q => ⟨#[], by rw [q]; simp⟩⟩ (fun b u q => ?_) hG fun b hb => ?_
  · refine (I.hok b u q).stay (fun c v hc y => hk c v ?_ ?_ y) (fun _ y => y) fun _ _ y => y
    · rcases hc with z | z
      · rw [z]; exact nL b u q
      · exact nL c _ z
    · rcases hc with z | z
      · rw [z]; exact ni b u q
      · exact ni c _ z
  · have e : b = L ∨ b = it := by simpa using hb
    rcases e with z | z
    · rw [z]; exact ⟨fL.2.2.2.1, fL.2.1, fL.2.2.2.2.1, fL.2.2.2.2.2⟩
    · rw [z]; exact ⟨fi.2.2.2.1, fi.2.1, fi.2.2.2.2.1, fi.2.2.2.2.2⟩
/-- .. and a tuple is laid -/
theorem inv_turnT {G : Array GenState} {L it t : Addr} {s₁ : Shared} {xs : List V} {us : List Value} (I : Inv X pins σ H s) (fL : FpOk X pins H L) (fi : FpOk X pins H it) (hk : ∀ b o, b ≠ L → b ≠ it → s.heap.get? b = some o → s₁.heap.get? b = some o) (hos : s₁.os = s.os) (hG : AllBare G)
    (hn : s.heap.objs.size ≤ t) (ht : s₁.heap.get? t = some { cls := .type "tuple", data := .seq us.toArray }) (r : Vals xs us) (hz : xs.length ≤ sizeLine) : Inv X pins σ (upd H t (.tup xs)) { s₁ with gens := G } := by
  have nL : ∀ b u, H b = some u → b ≠ L := fun b u e z => by rw [z, fL.1] at e; cases e
  have ni : ∀ b u, H b = some u → b ≠ it := fun b u e z => by rw [z, fi.1] at e; cases e
  have nt : H t = none := I.hok.fresh hn
  have lt : ∀ b o, s.heap.get? b = some o → b ≠ t := fun b o q z => by
    rw [z] at q
    exact Nat.lt_irrefl _ (Nat.lt_of_lt_of_le (Heap.lt_size q) hn)
  have kk : ∀ b o, b ∉ [L, it] → s.heap.get? b = some o → s₁.heap.get? b = some o := fun b o hb q => hk b o (fun z => hb (by simp [z])) (fun z => hb (by simp [z])) q
  have up : ∀ b u, H b = some u → upd H t (.tup xs) b = some u := fun b u q => by rw [upd_ne (ne_of_none q nt)]; exact q
  refine I.call' (ch := [L, it]) (s' := { s₁ with gens := G }) hos ⟨fun b o q n _ hx => kk b o hx q, fun b o q n _ hx => ⟨o.slots, kk b o hx q⟩, fun b o q n hx => by rw [upd_ne (lt b o q)]; exact n, fun b o q hx => ⟨o, kk b o hx q⟩, fun b xs q => up b _ q, fun b o u q => up b _ q, fun b ps q => ⟨#[], by rw [up b _ q]; simp⟩⟩ (fun b u q => ?_) hG fun b hb => ?_
  · by_cases hb : b = t
    · subst hb
      rw [upd_same] at q
      cases q
      exact ⟨hz, us, r, ⟨_, ht, rfl, _, rfl⟩⟩
    · rw [upd_ne hb] at q
      refine (I.hok b u q).stay (fun c v hc y => hk c v ?_ ?_ y) (fun c y => up c _ y) fun c _ y => up c _ y
      · rcases hc with z | z
        · rw [z]; exact nL b u q
        · exact nL c _ z
      · rcases hc with z | z
        · rw [z]; exact ni b u q
        · exact ni c _ z
  · have e : b = L ∨ b = it := by simpa using hb
    rcases e with z | z
    · rw [z]; exact ⟨fL.2.2.2.1, fL.2.1, fL.2.2.2.2.1, fL.2.2.2.2.2⟩
    · rw [z]; exact ⟨fi.2.2.2.1, fi.2.1, fi.2.2.2.2.1, fi.2.2.2.2.2⟩
/-- a part that HandS reads, run while generators sleep -/
theorem run_calm {α : Type} {M : Model} {A : Around} {t : Sem α} {Q : α → Shared → Prop} {Q' : α → Shared → Prop} (I : Inv X pins σ H s) (h : ∀ z, Inv X pins σ H z → z.heap = s.heap → wpAny M A t Q (fun _ _ => False) z)
    (hQ : ∀ a z G, Q a z → (AllBare z.gens → AllBare G) → (∀ (g : Nat) (gs : GenState), s.gens[g]? = some gs → isSus gs = true → G[g]? = some gs) → Q' a { z with gens := G }) :
    wpAny M A t Q' (fun _ _ => False) s := by
  have hc : wpAny M A t Q (fun _ _ => False) (calmS s) := h _ (inv_gens I (allBare_calm I.bare)) rfl
  refine wpAny_mono (frame hc) (fun a s' hz => ?_) fun a s' hz => ?_
  · obtain ⟨z, o, rfl, q⟩ := hz
    exact hQ a z (pat (calmP s) z).gens q (fun hb => allBare_pat o hb) fun g gs h1 h2 => kept o h1 h2
  · obtain ⟨_, _, _, z⟩ := hz
    exact z
end
def Sq2 (K : PySem.W.Frag) (H : Hp) (p : Addr) (xs : List V) : Prop := SqL K H p xs ∨ SqT K H p xs
/-- the sides of the list or tuple at p -/
def ItEs (K : PySem.W.Frag) (p : Addr) (as : List Addr) : It :=
  ⟨fun i H => Sq2 K H p (as.map V.ref) ∧ i < as.length, fun i H v H' => ∃ (T : Addr) (x y : Addr), v = .ref T ∧ H T = none ∧ H' = upd H T (.tup [.ref x, .ref y]) ∧ as[i]? = some x ∧ as[(i + 1) % as.length]? = some y, fun i H => Sq2 K H p (as.map V.ref) ∧ as.length ≤ i⟩
theorem vals_refs : ∀ {as : List Addr} {us : List Value}, Vals (as.map V.ref) us → us = as.map Value.ref
  | [], _, r => by cases r; rfl
  | a :: as, _, r => by
    cases r with
    | cons r1 r2 =>
      cases (show _ = Value.ref a from r1)
      rw [vals_refs r2]; rfl
theorem refs_vals : ∀ as : List Addr, Vals (as.map V.ref) (as.map Value.ref)
  | [] => .nil
  | a :: as => .cons rfl (refs_vals as)
theorem rg_of {X : Cx} {pins : List (Addr × Obj)} {σ : L2.St} {H : Hp} {s : Shared} {p : Addr} {as : List Addr} (I : Inv X pins σ H s) (h : Sq2 X.K H p (as.map V.ref)) : Rg s.heap p (as.map Value.ref) ∧ as.length ≤ sizeLine := by
  rcases h with h | h
  · obtain ⟨its, r, pl, hz⟩ := I.list h
    rw [vals_refs r] at pl
    exact ⟨.inl pl.isList, by simpa using hz⟩
  · obtain ⟨its, r, pl, hz⟩ := I.tuple h
    rw [vals_refs r] at pl
    exact ⟨.inr pl, by simpa using hz⟩
/-- what is known of the def each_side -/
structure EsD (K : PySem.W.Frag) (mg : Str → Option Value) (f : Addr) (fd : FuncData) (fb yb : List Stmt) (pk : Pos) : Prop where
  fb_ : ∃ pr q1 q2 q3 pc pf : Pos, fb = [.For (.Name "k" pk) (.Call (.Name "range" pr) [.Call (.Name "len" q1) [.Name "ring" q2] [] q3] [] pc) yb [] pf]
  yb_ : ∃ (p1 p2 p3 p4 p5 p6 p7 p8 p9 p10 p11 p12 p13 yp ep : Pos) (j1 j2 : Nat), yb = [.Expr (.Yield (some (.Tuple [.Subscript (.Name "ring" p1) (.Name "k" p2) p3,
      .Subscript (.Name "ring" p4) (.BinOp (.BinOp (.Name "k" p5) .Add (.Constant (.int 1) j1 p6) p7) .Mod (.Call (.Name "len" p8) [.Name "ring" p9] [] p10) p11) p12] j2 p13)) yp) ep]
  F : ∃ (params : Arguments) (scope : Scope), FunD K "each_side" "each_side" params fb scope [] [] f fd ∧ GScope ["ring", "k"] ["ring"] scope ∧ scope.names.lookup ("ring" : Str) = some .local ∧ scope.names.lookup ("k" : Str) = some .local ∧ scope.names.lookup ("len" : Str) = some .globalImplicit ∧ scope.names.lookup ("range" : Str) = some .globalImplicit
  b : Binds K fd ["ring"] []
  mgf : mg "each_side" = some (.ref f)
  ml : mg "len" = none
  mr : mg "range" = none
/-- a generator that has not begun -/
structure EsM (X : Cx) (pins : List (Addr × Obj)) (H : Hp) (p : Addr) (fb : List Stmt) (a : Addr) (g : Nat) (env : Env) (s : Shared) : Prop where
  isg : s.heap.IsGen a g
  gs : s.gens[g]? = some (.fresh (.func fb env))
  fa : FpOk X pins H a
  fL : FpOk X pins H env.locals
  x : GX X.K X.mg X.base env
  co : env.scope.isCoroutine = false
  it : interactive env = false
  lt : env.locals < s.heap.objs.size
  bL : X.base.get? env.locals = none
  ns : ∃ m, s.heap.Ns env.locals m ∧ m "ring" = some (.ref p)
  aL : a ≠ env.locals
section
variable {X : Cx} {pins : List (Addr × Obj)} {σ : L2.St} {H : Hp} {s : Shared}
theorem made_es {f p : Addr} {fd : FuncData} {fb yb : List Stmt} {pk : Pos} {k : Nat} {E : Value → Shared → Prop} {Q : Value → Shared → Prop} (D : EsD X.K X.mg f fd fb yb pk) (hr : Room k X.A) (I : Inv X pins σ H s)
    (h : ∀ a g env s', Inv X pins σ H s' → EsM X pins H p fb a g env s' → Q (.ref a) s') : wpAny (model X.prog X.w) X.A (call (.ref f) [.ref p]) Q E s := by
  obtain ⟨params, scope, F, S, kr, kk, kl, kg⟩ := D.F
  obtain ⟨oc, od, dV, kV, doc, pm, an, cdv, ct, osl, rfl, lk, hcd, _, _⟩ := F.ex
  have hkind : ∀ y ∈ (["ring"] : List Str).zip [Value.ref p], scope.names.lookup y.1 = some .local ∨ (scope.names.lookup y.1 = some .cell ∧ ((cellsFrom (s.heap.objs.size + 1) scope.names []).lookup y.1).isSome = true) := fun y hy => by
    have e : y = (("ring" : Str), Value.ref p) := by simpa using hy
    subst e
    exact .inl kr
  refine wpAny_call (codeAny_call_generator hr.depth (I.kIn _ _ lk) rfl S.co S.gen rfl (PySem.W.codeRec_of I.kIn hcd) (D.b s [.ref p] I.kIn rfl _ _ _ _ ?_))
  refine wpAny_newFunctionEnv_cells S.kind hkind fun env he s1 x => ?_
  subst he
  have kp1 := x.toInCall.keep
  refine ⟨I.nolimit.keeps kp1, ?_⟩
  obtain ⟨h1, tk, es1, _⟩ := x.done
  have ns1 := x.toInCall.ns
  have fr1 := x.toInCall.fresh
  subst es1
  have lt1 : s.heap.objs.size < h1.objs.size := ns1.lt
  have kp2 : ∀ (o' : Obj) b o, s.heap.get? b = some o → (h1.push o').get? b = some o := fun o' b o q => Heap.get?_push_of_some _ (kp1 b o q)
  show Q (.ref h1.objs.size) _
  refine h h1.objs.size s.gens.size (envOfC "each_side" scope s.heap.objs.size f cdv) _ ?_ ?_
  · refine I.call' (ch := []) rfl (Un.kept (kp2 _)) (I.hok.kept (kp2 _)) (AllBare.push I.bare rfl) fun b z => by simp at z
  · have young : ∀ b, s.heap.objs.size ≤ b → FpOk X pins H b := fun b hb => I.fpOk hb (I.hok.fresh hb)
    refine ⟨⟨_, _, _, Heap.get?_push_size _ rfl, rfl, rfl, rfl⟩, Array.getElem?_push_size .., young _ (Nat.le_of_lt lt1), young _ (Nat.le_refl _), ⟨I.ok.mod, S.kind, rfl, rfl, kr, kk, kl, kg, D.ml, D.mr⟩, S.co, ?_, ?_, ?_, ?_, ?_⟩
    · unfold interactive
      show (scope.kind == .module && _) = false
      rw [S.kind]; rfl
    · show s.heap.objs.size < (h1.push _).objs.size
      rw [Heap.size_push]; exact Nat.lt_succ_of_lt lt1
    · cases e : X.base.get? s.heap.objs.size with
      | none => exact e
      | some o => exact absurd (Nat.lt_of_lt_of_le (Heap.lt_size (I.bk _ _ e)) (Nat.le_refl _)) (Nat.lt_irrefl _)
    · refine ⟨_, ns_keep ns1 fun o q => Heap.get?_push_of_some _ q, ?_⟩
      exact bindL_get (P := ["ring"]) (vs := [.ref p]) (i := 0) (by decide) rfl rfl kr
    · exact Nat.ne_of_gt lt1
end
def forB : List Stmt → List Stmt
  | (.For _ _ b _ _) :: _ => b
  | _ => []
def forP : List Stmt → Pos
  | (.For (.Name _ p) _ _ _ _) :: _ => p
  | _ => ⟨0, 0, 0, 0⟩
def itEs (K : PySem.W.Frag) (vs : List V) (H : Hp) (RI : It → Hp → Prop) : Prop := ∃ (p : Addr) (as : List Addr), vs = [.ref p] ∧ RI (ItEs K p as) H
def iEs (K : PySem.W.Frag) (ta : TA) : TI := fun σ H RI => ta σ H fun vs H1 => itEs K vs H1 RI
theorem fpH {X : Cx} {pins : List (Addr × Obj)} {H H' : Hp} {b : Addr} (f : FpOk X pins H b) (h : H' b = none) : FpOk X pins H' b := ⟨h, f.2⟩
theorem setGen_twice {s : Shared} {h : Heap} {tk g : Nat} {x y : GenState} : ({ s.setGen g x with heap := h, toks := tk } : Shared).setGen g y = { ({ s with heap := h, toks := tk } : Shared) with gens := (s.gens.setIfInBounds g y) } := by
  unfold Shared.setGen
  simp
theorem ps_forEs {X : Cx} {tg e : Expr} {body fb yb : List Stmt} {f : Addr} {fd : FuncData} {pk pn pc pos : Pos} {ta : TA} {g : TG} {tb : TS} {k : Nat} (D : EsD X.K X.mg f fd fb yb pk) (hr : Room k X.A) (kp : PySem.W.keepIn X.K (.ref f) = true) (hg : Gl X "each_side") (hc : X.calm = true)
    (ha : PA X.nox [e] ta) (hgt : PG X.nox tg g) (hbd : PSs X.nox body tb) (he : starEach [e] X.env = (false, eval e X.env) :: starEach [] X.env := by rfl) : PS X.nox (.For tg (.Call (.Name "each_side" pn) [e] [] pc) body [] pos) (tFor (iEs X.K ta) g tb) := by
  refine ⟨fun pins s σ H D0 I h => ?_⟩
  refine wpAny_For ?_ (by intro _; rfl)
  refine wpAny_Call_Name_kw (ld_glob I hg D.mgf ?_)
  refine PySem.W.callWith_K (h₀ := X.base) I.ok.mod.kin kp (thn (ha.run pc pins s σ H _ I h) fun us s1 ⟨vs, H1, I1, r1, q1⟩ => ⟨I1.kIn, ?_⟩) he rfl
  obtain ⟨p, as, rfl, W, ⟨m0, w0⟩, turn⟩ := q1
  obtain ⟨u, rfl, rx⟩ := vals1 r1
  obtain rfl : u = Value.ref p := rx
  refine made_es (X := X.nox) D hr I1 fun a gn env s2 I2 M => ?_
  refine wpAny_pyIter_gen M.isg ?_
  have sq0 : Sq2 X.K H1 p (as.map V.ref) := by rcases turn 0 m0 σ H1 w0 with ⟨⟨q, _⟩, _⟩ | ⟨⟨q, _⟩, _⟩ <;> exact q
  obtain ⟨rg0, hz⟩ := rg_of (X := X.nox) I2 sq0
  have hz2 : (as.map Value.ref).length < 2 ^ 62 := by
    rw [List.length_map]
    exact Nat.lt_of_le_of_lt hz (by decide)
  obtain ⟨it, hit⟩ : ∃ it, s2.heap.objs.size + 1 = it := ⟨_, rfl⟩
  have hh : X.A.handled = none := I.ok.hd hc
  obtain ⟨mN, ns1, ns2⟩ := M.ns
  have hps : p < s2.heap.objs.size := by
    rcases rg0 with ⟨o, ho, _⟩ | ⟨o, ho, _⟩ <;> exact Heap.lt_size ho
  have hpL : p ≠ env.locals := fun z => by
    obtain ⟨o, es, ep, q1, q2, _⟩ := ns1
    rw [← z] at q1
    rcases rg0 with ⟨o', ho, _, n, hd⟩ | ⟨o', ho, _, n, hd⟩ <;> (rw [q1] at ho; cases ho; rw [q2] at hd; cases hd)
  obtain ⟨pr, q1, q2, q3, pc2, pf, hfb⟩ := D.fb_
  obtain ⟨p1, p2, p3, p4, p5, p6, p7, p8, p9, p10, p11, p12, p13, yp, ep, j1, j2, hyb⟩ := D.yb_
  have st0 : GenState.Goes (model X.prog X.w) X.A.in1 (RE env.locals it) (YE X.base env.locals it p (as.map Value.ref)) as.length (.fresh (.func fb env)) (.send .none) (s2.setGen gn .running) := by
    have := es_start (prog := X.prog) (w := X.w) (A := X.A.in1) (s := s2.setGen gn .running) (it := it) (its := as.map Value.ref) (kv := mN "k") M.x fb yb hfb hyb hh M.co M.it M.lt hps hpL M.bL (Nat.le_trans I2.ok.bsz I2.sz) hit hz2 ⟨⟨mN, ns1, ns2, rfl⟩, I2.bk, rg0⟩
    rw [List.length_map] at this
    exact ⟨rfl, this⟩
  have fit : FpOk X.nox pins H1 it := I2.fpOk (by rw [← hit]; exact Nat.le_succ _) (I2.hok.fresh (by rw [← hit]; exact Nat.le_succ _))
  have hai : a ≠ it := fun z => by
    obtain ⟨o, _, _, ho, _⟩ := M.isg
    have := Heap.lt_size ho
    rw [z, ← hit] at this
    exact Nat.lt_irrefl _ (Nat.lt_of_succ_lt this)
  refine codeAny_forLoop_any (fun n s' => ∃ i σ' H' gs, Inv X.nox pins σ' H' s' ∧ s'.heap.IsGen a gn ∧ s'.gens[gn]? = some gs ∧ FpOk X.nox pins H' a ∧ FpOk X.nox pins H' env.locals ∧ FpOk X.nox pins H' it ∧
    GenState.Goes (model X.prog X.w) X.A.in1 (RE env.locals it) (YE X.base env.locals it p (as.map Value.ref)) (as.length - i) gs (.send .none) (s'.setGen gn .running) ∧ i ≤ as.length ∧ W i n σ' H') ?_ m0 ⟨0, σ, H1, _, I2, M.isg, M.gs, M.fa, M.fL, fit, st0, Nat.zero_le _, w0⟩
  rintro n s3 ⟨i, σ3, H3, gs, I3, hIG, hgs, fa, fL, fi, hgo, hle, w3⟩
  have hpi : p ≠ it := by rw [← hit]; exact Nat.ne_of_lt (Nat.lt_succ_of_lt hps)
  have hbi : X.base.get? it = none := by
    cases e : X.base.get? it with
    | none => rfl
    | some o => exact absurd (Nat.lt_of_lt_of_le (Heap.lt_size e) (Nat.le_trans I2.ok.bsz I2.sz)) (by rw [← hit]; exact Nat.not_lt.mpr (Nat.le_succ _))
  have bne : ∀ b o, X.base.get? b = some o → b ≠ env.locals ∧ b ≠ it := fun b o q => ⟨(fun z => by rw [z, M.bL] at q; cases q), (fun z => by rw [z, hbi] at q; cases q)⟩
  rcases turn i n σ3 H3 w3 with ⟨⟨sq, stop⟩, qn⟩ | ⟨⟨sq, go⟩, N, hN, step⟩
  · have h0 : as.length - i = 0 := Nat.sub_eq_zero_of_le stop
    rw [h0] at hgo
    refine wpAny_mono (E := fun _ _ => False) ?_ (fun _ _ z => z) (fun _ _ z => z.elim)
    refine wpAny_bare I3.bare ?_
    refine nextS (P := fun n s₀ s => n = 0 ∧ KeepE env.locals it s₀ s) hh I3.nolimit hr.depth hIG hgs hgo (fun v s₁ y hy hYE => ?_) (fun s₁ hp h' ext hb => ?_)
    · obtain ⟨i', t, xv, yv, e1, hx, hy', rfl, hsz, ht, ⟨_, kpp⟩, oL, oi, tL, ti, hkap⟩ := hYE
      have := hkap s₁ (fun b o _ q => q) ((rg_of (X := X.nox) I3 sq).1.at fun o q => kpp p o hpL hpi q) (fun b o q => kpp b o (bne b o q).1 (bne b o q).2 (I3.bk b o q))
      exact (show False from this).elim
    · obtain ⟨_, ⟨h1, tk1, es⟩, kpp⟩ := hp
      refine wpAny_execs_nil ⟨σ3, H3, ?_, qn⟩
      have := inv_turn (X := X.nox) (s₁ := { s₁ with heap := h' }) (G := ({ s₁.setGen gn .finished with heap := h' } : Shared).gens) I3 fL fi (fun b o h1 h2 q => ext b o (kpp b o h1 h2 q)) (by rw [es]; rfl) hb
      exact this
  · obtain ⟨m, hm⟩ : ∃ m, as.length - i = m + 1 := ⟨as.length - i - 1, by have : i < as.length := go; omega⟩
    rw [hm] at hgo
    refine wpAny_mono (E := fun _ _ => False) ?_ (fun _ _ z => z) (fun _ _ z => z.elim)
    refine wpAny_bare I3.bare ?_
    refine nextS (P := fun n s₀ s => n = 0 ∧ KeepE env.locals it s₀ s) hh I3.nolimit hr.depth hIG hgs hgo (fun v s₁ y hy hYE hb => ?_) (fun s₁ hp => by cases hp.1)
    obtain ⟨i', t, xv, yv, e1, hx, hy', rfl, hsz, ht, ⟨⟨h1, tk1, es⟩, kpp⟩, oL, oi, tL, ti, hkap⟩ := hYE
    have hii : i' = i := by
      have e2 : m + 1 - 1 + (i' + 1) = (as.map Value.ref).length := e1
      rw [List.length_map] at e2
      omega
    subst hii
    rw [List.getElem?_map] at hx hy'
    rw [List.length_map] at hy'
    obtain ⟨ax, hax, rfl⟩ := Option.map_eq_some_iff.mp hx
    obtain ⟨ay, hay, rfl⟩ := Option.map_eq_some_iff.mp hy'
    have htn : H3 t = none := I3.hok.fresh hsz
    have I4 : Inv X.nox pins σ3 (upd H3 t (.tup [.ref ax, .ref ay])) (s₁.setGen gn y) := inv_turnT (X := X.nox) (s₁ := s₁) (G := (s₁.setGen gn y).gens) (us := [.ref ax, .ref ay]) I3 fL fi kpp (by rw [es]; rfl) hb hsz ht (.cons rfl (.cons rfl .nil)) (by show 2 ≤ sizeLine; decide)
    obtain ⟨oa, na, qa, ha1, ha2, ha3, ha4⟩ := hIG
    have ha1' : s₁.heap.get? a = some oa := kpp a oa M.aL hai ha1
    have hat : a ≠ t := fun z => by
      rw [z] at ha1
      exact Nat.lt_irrefl _ (Nat.lt_of_lt_of_le (Heap.lt_size ha1) hsz)
    have f4 : ∀ b, FpOk X.nox pins H3 b → b ≠ t → FpOk X.nox pins (upd H3 t (.tup [.ref ax, .ref ay])) b := fun b fb hb => fpH fb (by rw [upd_ne hb]; exact fb.1)
    refine go_of (n := "generator") ha1' ha2 ha3 (by decide) ?_
    have hf : ∀ b ∈ [a, env.locals, it], FpOk X.nox pins (upd H3 t (.tup [.ref ax, .ref ay])) b := fun b hb => by
      have e : b = a ∨ b = env.locals ∨ b = it := by simpa using hb
      rcases e with z | z | z
      · rw [z]; exact f4 _ fa hat
      · rw [z]; exact f4 _ fL (Ne.symm tL)
      · rw [z]; exact f4 _ fi (Ne.symm ti)
    have hob : ∀ b ∈ [a, env.locals, it], ∃ o, (s₁.setGen gn y).heap.get? b = some o ∧ ∀ v, o.data ≠ .cell v := fun b hb => by
      have e : b = a ∨ b = env.locals ∨ b = it := by simpa using hb
      rcases e with z | z | z
      · rw [z]; exact ⟨oa, ha1', fun v z => by rw [ha3] at z; cases z⟩
      · rw [z]; exact oL
      · rw [z]; exact oi
    have I5 := I4.pinned hf hob
    have gy : (s₁.setGen gn y).gens[gn]? = some y := by
      have hl : gn < s3.gens.size := (Array.getElem?_eq_some_iff.mp hgs).1
      rw [es]
      simp [Shared.setGen, hl]
    refine wpAny_mono (E := fun _ _ => False) ?_ (fun _ _ z => z) (fun _ _ z => z.elim)
    refine run_calm I5 (fun z Iz _ => hgt.run _ z σ3 _ (.ref t) (.ref t) _ Iz rfl (step (.ref t) _ ⟨t, ax, ay, rfl, htn, rfl, hax, hay⟩)) fun _ z6 G6 q6 hb6 hk6 => ?_
    obtain ⟨σ6, H6, I6, q6⟩ := q6
    have I6' := inv_gens I6 (hb6 I6.bare)
    refine wpAny_mono (E := fun _ _ => False) ?_ (fun _ _ z => z) (fun _ _ z => z.elim)
    refine run_calm I6' (fun z Iz _ => hbd.run _ z σ6 H6 _ Iz q6) fun fl z7 G7 q7 hb7 hk7 => ?_
    have again : ∀ {σ7 : L2.St} {H7 : Hp}, Inv X.nox (pins ++ pinsAt [a, env.locals, it] (s₁.setGen gn y).heap) σ7 H7 z7 → N σ7 H7 → ∃ m', m' < n ∧ ∃ i σ' H' gs, Inv X.nox pins σ' H' { z7 with gens := G7 } ∧ z7.heap.IsGen a gn ∧ G7[gn]? = some gs ∧ FpOk X.nox pins H' a ∧ FpOk X.nox pins H' env.locals ∧ FpOk X.nox pins H' it ∧
        GenState.Goes (model X.prog X.w) X.A.in1 (RE env.locals it) (YE X.base env.locals it p (as.map Value.ref)) (as.length - i) gs (.send .none) (({ z7 with gens := G7 } : Shared).setGen gn .running) ∧ i ≤ as.length ∧ W i m' σ' H' := fun {σ7 H7} I7 n7 => by
      obtain ⟨m', hm', w7⟩ := hN σ7 H7 n7
      have pin : ∀ b ∈ [a, env.locals, it], ∀ o, s₁.heap.get? b = some o → z7.heap.get? b = some o ∧ H7 b = none := fun b hb o q => by
        have := I7.pin (b, o) (List.mem_append_right _ (List.mem_append_right _ (mem_pinsAt hb q)))
        exact ⟨this.1, this.2.1⟩
      have sq7 : Sq2 X.K H7 p (as.map V.ref) := by rcases turn (i' + 1) m' σ7 H7 w7 with ⟨⟨q, _⟩, _⟩ | ⟨⟨q, _⟩, _⟩ <;> exact q
      obtain ⟨oL0, hoL, _⟩ := oL
      obtain ⟨oi0, hoi, _⟩ := oi
      refine ⟨m', hm', i' + 1, σ7, H7, y, inv_gens I7.unpinned (hb7 I7.bare), ⟨oa, na, qa, (pin a (by simp) oa ha1').1, ha2, ha3, ha4⟩, hk7 gn y (hk6 gn y gy hy) hy, fpH fa (pin a (by simp) oa ha1').2, fpH fL (pin _ (by simp) _ hoL).2, fpH fi (pin _ (by simp) _ hoi).2, ?_, go, w7⟩
      have hgo2 := hkap (({ z7 with gens := G7 } : Shared).setGen gn .running) (fun b o hb q => (pin b (by rcases hb with z | z <;> simp [z]) o q).1) (rg_of (X := X.nox) I7 sq7).1 (fun b o q => I7.bk b o q)
      have e3 : as.length - (i' + 1) = m := by omega
      rw [e3]
      exact hgo2
    cases fl with
    | next => obtain ⟨σ7, H7, I7, n7⟩ := q7; exact again I7 n7
    | cont => obtain ⟨σ7, H7, I7, n7⟩ := q7; exact again I7 n7
    | brk => obtain ⟨σ7, H7, I7, q7⟩ := q7; exact ⟨σ7, H7, inv_gens I7.unpinned (hb7 I7.bare), q7⟩
    | ret v => obtain ⟨x7, σ7, H7, I7, r7, q7⟩ := q7; exact ⟨x7, σ7, H7, inv_gens I7.unpinned (hb7 I7.bare), r7, q7⟩
end GFr

set_option Elab.async false
set_option linter.all false
set_option maxRecDepth 100000
set_option maxHeartbeats 2000000
/-! MirG: for a, b in each_side(ring), in worlds. -/
namespace Mr
open PySem PySem.Spec PyProof.Rows L2 GFr
theorem gIEs {K : PySem.W.Frag} {t : TA} {σ : L2.St} {H : Hp} {RI : It → Hp → Prop} (h : t σ H fun vs H1 => itEs K vs H1 RI) : iEs K t σ H RI := h
section
variable {α τ ρ : Type} {r : R α} {K : PySem.W.Frag} {G H : Hp} {O : Own} {v : V} {xs : List α} {s0 : τ} {res : Fl τ ρ} {g : TG} {tb : TS} {D : Ends} {σ : L2.St}
/-- it relates references only -/
def RfR (r : R α) : Prop := ∀ G v x, r.rel G v x → ∃ a, v = V.ref a
theorem rf_P2 {β γ : Type} {r0 : R β} {r1 : R γ} : RfR (rP2 K r0 r1) := fun G v x ⟨p, _, _, e, _⟩ => ⟨p, e⟩
theorem al_refs (hr : RfR r) : ∀ {vs : List V} {xs : List α}, Al r G vs xs → ∃ as : List Addr, vs = as.map V.ref
  | [], [], _ => ⟨[], rfl⟩
  | _ :: _, _ :: _, h => by
    obtain ⟨a, rfl⟩ := hr _ _ _ h.1
    obtain ⟨as, rfl⟩ := al_refs hr h.2
    exact ⟨a :: as, rfl⟩
  | [], _ :: _, h => h.elim
  | _ :: _, [], h => h.elim
theorem walk_es {p : Addr} {as : List Addr} : Walk (ItEs K p as) as.length (fun H => Sq2 K H p (as.map V.ref)) (YPair (fun i => (as.map V.ref)[i]?) (fun i => (as.map V.ref)[(i + 1) % as.length]?)) := by
  refine ⟨fun i H hi q => ⟨q, hi⟩, fun H q => ⟨q, Nat.le_refl _⟩, fun i H v H' _ q y => ?_⟩
  obtain ⟨T, x, y, h1, h2, h3, h4, h5⟩ := y
  exact ⟨T, .ref x, .ref y, h1, h2, h3, by dsimp only; rw [List.getElem?_map, h4]; rfl, by dsimp only; rw [List.getElem?_map, h5]; rfl⟩
theorem lp_Es {f : τ → α × α → Option (Bf τ ρ)} {i1 i2 : Nat} (hr : RfR r) (S : Sub G O H) (h : (rQ K r).rel G v xs) (hm : forL f (sidesM xs) s0 = some res) (I : τ → L2.St → Hp → Prop) (h0 : I s0 σ H) (hG : ∀ s σ H, I s σ H → Ext G H)
    (hs : ∀ (i : Nat) (x y : α) (s : τ) (b : Bf τ ρ), f s (x, y) = some b → conL f ((sidesM xs).drop (i + 1)) b = some res → ∀ w1 w2 σ H H', I s σ H → (∀ G O, Sub G O H → Sub G O H') → r.rel G w1 x → r.rel G w2 y →
      tb { D with nx := PvL f (sidesM xs) res I (i + 1), ct := PvL f (sidesM xs) res I (i + 1), bk := D.nx } ((σ.set i1 (some w1)).set i2 (some w2)) H')
    (hd : ∀ s σ H, res = .nx s → I s σ H → D.nx σ H) :
    itEs K [v] H (LpW (gTup K 2 (gCons (gName i1) (gCons (gName i2) gNil))) tb D σ) := by
  obtain ⟨p, vs, rfl, hq, ha⟩ := h
  obtain ⟨as, rfl⟩ := al_refs hr ha
  have hl := ha.len
  rw [List.length_map] at hl
  refine ⟨p, as, rfl, lp_it walk_es (by rw [sidesM_length, hl]) hm I h0 (fun s σ H hI => hq.imp (sqL_up (hG s σ H hI)) (sqT_up (hG s σ H hI))) (fun i z s b hx hb hr' w σ H H' hI hY => ?_) hd⟩
  obtain ⟨x, y⟩ := z
  obtain ⟨hx1, hx2⟩ := sidesM_get xs hx
  obtain ⟨T, w1, w2, rfl, hT, rfl, hw1, hw2⟩ := hY
  dsimp only at hw1 hw2
  rw [hl] at hw2
  exact ⟨T, _, rfl, .inl (.inl upd_same), rfl, _, _, rfl, _, _, rfl, rfl, hs i x y s b hb hr' w1 w2 σ H _ hI (fun G O S => S.junk hT) (ha.at hx1 hw1) (ha.at hx2 hw2)⟩
end
end Mr

set_option Elab.async false
set_option linter.all false
set_option maxRecDepth 100000
set_option maxHeartbeats 1000000
/-! GenList2: for, within a generator def that a list drains (the layer GS of HandS). -/
namespace GFr
open PySem PySem.Spec PyProof.Rows L2 GenW
def tGFor (wi : TI) (g : TG) (tb : TGn) : TGn := fun D ys σ H => wi σ H fun J H1 => ∃ W : Nat → Nat → List V → L2.St → Hp → Prop, (∃ m, W 0 m ys σ H1) ∧ ∀ i m ys σ H, W i m ys σ H →
  (J.stop i H ∧ D.nx ys σ H) ∨ (J.go i H ∧ ∃ N : List V → L2.St → Hp → Prop, (∀ ys' σ' H', N ys' σ' H' → ∃ m', m' < m ∧ W (i + 1) m' ys' σ' H') ∧ ∀ x H', J.yld i H x H' → g x σ H' fun σ2 H2 => tb { D with nx := N, ct := N, bk := D.nx } ys σ2 H2)
theorem gs_for {X : Cx} {tg iter : Expr} {body : List Stmt} {pos : Pos} {wi : TI} {g : TG} {tb : TGn} (hp : PassesOwn (model X.prog X.w) X.A X.env X.xe) (hc : X.calm = true) (hi : PI X.nox tg iter wi) (hg : PG X.nox tg g) (hb : GSs X body tb)
    (hs : ∀ x, foldedSetIterable iter X.env x = pure x := by intro _; rfl) : GS X (.For tg iter body [] pos) (tGFor wi g tb) := by
  refine ⟨fun A S ip R n ys s₀ c fs K J gd lv s σ H D gc hn k hI ht => ?_⟩
  obtain ⟨acc, cc, r, I⟩ := hI
  refine seg_For hs ?_
  rw [gc.over]
  refine wpAny_mono (hi.run _ s σ H _ (I.wish _) ht) (fun v s1 h1 => wpAny_mono h1 (fun itv s2 h2 => ?_) (fun _ _ z => z.elim)) (fun _ _ z => z.elim)
  obtain ⟨it, fp, tn, J0, H2, rfl, I2, T, st2, f2, W, ⟨m0, w0⟩, turn⟩ := h2
  intro p
  have gl := fun (kk : Result → Sem PySem.Fin) => gc_loop (k := kk) (c' := .forLoop tg (.ref it) body [] X.env) (l := lv []) (kp := []) (p := p) gc rfl rfl
  have hne : ∀ b ∈ fp, b ≠ S := fun b hb z => (f2 b hb).2.2.2.2.2 (S, lstObj acc cc) (List.mem_append_right _ List.mem_cons_self) z.symm
  have stat : ∀ {acc' : Array Value} {cc' : Nat} {H' : Hp}, (∀ b ∈ fp, H' b = none) → ∀ b ∈ fp, FpOk X.nox ((S, lstObj acc' cc') :: ip) H' b := fun {acc' cc' H'} hn b hb => by
    obtain ⟨_, q1, q2, q3, q4, q5⟩ := f2 b hb
    refine ⟨hn b hb, q1, q2, q3, q4, fun q hq => ?_⟩
    rcases List.mem_append.mp hq with z | z
    · exact q5 q (List.mem_append_left _ z)
    · rcases List.mem_cons.mp z with z | z
      · rw [z]; exact Ne.symm (hne b hb)
      · exact q5 q (List.mem_append_right _ (List.mem_cons_of_mem _ z))
  have out : ∀ (n : Nat) (s₀ : Shared) (x : Value) (s' : Shared), X.xe x s' → Seg (model X.prog X.w) A R (GY X S) n s₀ (.forLoop tg (.ref it) body [] X.env) (turnJ X.env x)
      (.ret (fun r => ((match r with | .ok f => (.pure f : Sem Flow) | .error e => .raise e).onRaise (cameBack X.env)).wrap K J gd lv) none (gd false) (lv []) c p [] :: fs) s' := fun n s₀ x s' hx => by
    unfold turnJ
    refine seg_wrap ?_
    rw [(gl _).over]
    refine wpAny_bind (wpAny_mono (hp x s' hx) (fun _ s'' hcb => wpAny_theTreesLotGoes ?_) fun y s'' hcb => ?_)
    · exact seg_leaf (.error x) (seg_cameBack gc k hcb)
    · exact seg_leaf (.error y) (seg_cameBack gc k hcb)
  have loop : ∀ (m i n : Nat) (ys : List V) (s₀ s : Shared) (σ : L2.St) (H : Hp), n + ys.length = sizeLine → W i m ys σ H → GI X S ip ys σ H s → tn i s.heap → (∀ b ∈ fp, H b = none) →
      Seg (model X.prog X.w) A R (GY X S) n s₀ (.forLoop tg (.ref it) body [] X.env) ((model X.prog X.w).den (.forLoop tg (.ref it) body [] X.env))
        (.ret (fun r => ((match r with | .ok f => (.pure f : Sem Flow) | .error e => .raise e).onRaise (cameBack X.env)).wrap K J gd lv) none (gd false) (lv []) c p [] :: fs) s := by
    intro m
    induction m using Nat.strongRecOn with
    | ind m ih =>
      intro i n ys s₀ s σ H hn w hI st hfr
      obtain ⟨acc, cc, r, I⟩ := hI
      refine seg_forLoop ?_
      rw [(gl _).over]
      rcases turn i m ys σ H w with ⟨stop, qn⟩ | ⟨go, N, hN, step⟩
      · refine wpAny_mono (T.done X.nox rfl rfl rfl hc i _ s σ H (fun _ _ => False) (I.wish _) (stat hfr) st stop) (fun rr s4 ⟨hr, I4⟩ => ?_) (fun _ _ z => z.elim)
        subst hr
        refine seg_again rfl ?_
        exact seg_leaf (.ok .next) (k.ok n ys s₀ s4 .next hn ⟨σ, H, ⟨acc, cc, r, I4.unwish⟩, qn⟩)
      · refine wpAny_mono (T.item X.nox rfl rfl rfl hc i _ s σ H (fun _ _ => False) (I.wish _) (stat hfr) st go) (fun rr s4 ⟨u, hr, h4⟩ => ?_) (fun _ _ z => z.elim)
        subst hr
        refine wpAny_mono h4 (fun _ s5 ⟨x, H5, I5, r5, y5, st5, fr5⟩ => ?_) (fun _ _ z => z.elim)
        have I5' := I5.pinned (stat fr5) (T.obj _ _ st5)
        refine wpAny_mono (hg.run _ s5 σ H5 x u _ I5' r5 (step x H5 y5)) (fun _ s6 ⟨σ6, H6, I6, q6⟩ => ?_) (fun _ _ z => z.elim)
        have hip : ∀ q ∈ ip ++ pinsAt fp s5.heap, q.1 ≠ S := fun q hq => by
          rcases List.mem_append.mp hq with z | z
          · exact gc.ip q z
          · exact hne q.1 (of_pinsAt z).1
        have G0 := gl (fun r => ((match r with | .ok f => (.pure f : Sem Flow) | .error e => .raise e).onRaise (cameBack X.env)).wrap K J gd lv)
        refine hb.run A S (ip ++ pinsAt fp s5.heap) R n ys s₀ _ _ _ _ id id s6 σ6 H6 _ ⟨G0.pn, hip, G0.apart, G0.over, G0.split, G0.guard, rfl⟩ hn ⟨fun n' ys' s₀' s7 f hn' hsp => ?_, fun n' s₀' e s7 hx => out n' s₀' e s7 hx⟩ ⟨acc, cc, r, I6.unwish⟩ q6
        have back : ∀ {σ7 : L2.St} {H7 : Hp}, GI X S (ip ++ pinsAt fp s5.heap) ys' σ7 H7 s7 → GI X S ip ys' σ7 H7 s7 ∧ tn (i + 1) s7.heap ∧ ∀ b ∈ fp, H7 b = none := fun {σ7 H7} hI7 => by
          obtain ⟨acc7, cc7, r7, I7⟩ := hI7
          have pin : ∀ b ∈ fp, ∀ o, s5.heap.get? b = some o → s7.heap.get? b = some o ∧ H7 b = none := fun b hb o q => by
            have := I7.pin (b, o) (List.mem_append_right _ (List.mem_cons_of_mem _ (List.mem_append_right _ (mem_pinsAt hb q))))
            exact ⟨this.1, this.2.1⟩
          refine ⟨⟨acc7, cc7, r7, I7.pins_of fun q hq => I7.pin q (List.mem_append_right _ ?_)⟩, T.keep _ _ _ st5 fun b hb o e => (pin b hb o e).1, fun b hb => ?_⟩
          · rcases List.mem_cons.mp hq with z | z
            · rw [z]; exact List.mem_cons_self
            · exact List.mem_cons_of_mem _ (List.mem_append_left _ z)
          · obtain ⟨o, e, _⟩ := T.obj _ _ st5 b hb
            exact (pin b hb o e).2
        have again : ∀ {σ7 : L2.St} {H7 : Hp}, GI X S (ip ++ pinsAt fp s5.heap) ys' σ7 H7 s7 → N ys' σ7 H7 → Seg (model X.prog X.w) A R (GY X S) n' s₀' (.forLoop tg (.ref it) body [] X.env) (.pure (.again (.forLoop tg (.ref it) body [] X.env)))
            (.ret (fun r => ((match r with | .ok f => (.pure f : Sem Flow) | .error e => .raise e).onRaise (cameBack X.env)).wrap K J gd lv) none (gd false) (lv []) c p [] :: fs) s7 := fun {σ7 H7} hI7 n7 => by
          obtain ⟨m', hm', w7⟩ := hN ys' σ7 H7 n7
          obtain ⟨b1, b2, b3⟩ := back hI7
          exact seg_again rfl (ih m' hm' (i + 1) n' ys' s₀' s7 σ7 H7 hn' w7 b1 b2 b3)
        cases f with
        | next => obtain ⟨σ7, H7, I7, n7⟩ := hsp; exact again I7 n7
        | cont => obtain ⟨σ7, H7, I7, n7⟩ := hsp; exact again I7 n7
        | brk =>
          obtain ⟨σ7, H7, I7, q7⟩ := hsp
          exact seg_leaf (.ok .next) (k.ok n' ys' s₀' s7 .next hn' ⟨σ7, H7, (back I7).1, q7⟩)
        | ret v =>
          obtain ⟨x7, σ7, H7, I7, r7, q7⟩ := hsp
          exact seg_leaf (.ok (.ret v)) (k.ok n' ys' s₀' s7 (.ret v) hn' ⟨x7, σ7, H7, (back I7).1, r7, q7⟩)
  exact loop m0 0 n ys s₀ s2 σ H2 hn w0 ⟨acc, cc, r, I2.unwish⟩ st2 fun b hb => (f2 b hb).1
end GFr

set_option Elab.async false
set_option linter.all false
set_option maxRecDepth 100000
set_option maxHeartbeats 2000000
/-! MirL: list(each_side(tuple)), in worlds. -/
namespace Mr
open PySem PySem.Spec PyProof.Rows L2 GFr
theorem FunD_gok {P : Program} {w : World} {K : PySem.W.Frag} {mg : Str → Option Value} {base : Heap} {x qual : Str} {params : Arguments} {body : List Stmt} {scope : Scope} {dvs : List V} {kws : List (Str × V)} {f : Addr} {fd : FuncData}
    {N ps : List Str} {k : Nat} {sp : SpG} (F : FunD K x qual params body scope dvs kws f fd) (S : GScope N ps scope) (len : ∀ vs H Q E, sp vs H Q E → vs.length = ps.length)
    (hbody : ∀ (cdv : Value) (A : Around) (outer : List Env) (s : Shared) (H : Hp) (vs : List V) (Q : List V → Hp → Prop) (E : XK) (pn : List (Addr × Obj)), Room k (A.deeper (envOfC qual scope s.heap.objs.size f cdv)) → sp vs H Q E →
      ∃ t, GSs (gcxOf P w K mg base N qual scope f cdv A outer s H E pn) body t ∧ t { nx := fun ys _ H' => Q ys H', rt := fun ys v H' => v = .non ∧ Q ys H' } [] (start N vs) H) : GFn P w K mg base (k + 1) f fd ps sp := by
  obtain ⟨oc, od, dV, kV, doc, pm, an, cdv, ct, osl, rfl, lk, hcd, _, _⟩ := F.ex
  exact gfn_of lk hcd S len fun A outer s H vs Q E pn hr hsp => hbody cdv A outer s H vs Q E pn hr hsp
def spEs (K : PySem.W.Frag) : SpG := fun vs H Q _ => ∃ (α : Type) (r : R α) (G : Hp) (O : Own) (v : V) (xs : List α), vs = [v] ∧ Sub G O H ∧ (rT K r).rel G v xs ∧ xs.length ≤ 100000 ∧ ∀ G' H' ys, Ext G G' → Sub G' O H' → Al (rP2 K r r) G' ys (sidesM xs) → Q ys H'
/-- the body's reading -/
abbrev tEs (K : PySem.W.Frag) : TGn := tGThen (tGFor (iRng1 (tCons (tCB (rLenM K) (tCons (tVar 0) tNil)) tNil)) (gName 1)
  (tGThen (tGYield (tTup (tCons (tOp (rIxT K) (tVar 0) (tVar 1)) (tCons (tOp (rIxT K) (tVar 0) (tOp (rI (fun _ j => 0 < j) fun i j => .int (i % j)) (tOp (rI0 fun i j => .int (i + j)) (tVar 1) (tC (.int 1))) (tCB (rLenM K) (tCons (tVar 0) tNil)))) tNil)))) tG0)) tG0
def LpG (g : TG) (tb : TGn) (D : GEnds) (ys : List V) (σ : L2.St) (J : It) (H : Hp) : Prop := ∃ W : Nat → Nat → List V → L2.St → Hp → Prop, (∃ m, W 0 m ys σ H) ∧ ∀ i m ys σ H, W i m ys σ H →
  (J.stop i H ∧ D.nx ys σ H) ∨ (J.go i H ∧ ∃ N : List V → L2.St → Hp → Prop, (∀ ys' σ' H', N ys' σ' H' → ∃ m', m' < m ∧ W (i + 1) m' ys' σ' H') ∧ ∀ x H', J.yld i H x H' → g x σ H' fun σ2 H2 => tb { D with nx := N, ct := N, bk := D.nx } ys σ2 H2)
theorem gGFor {wi : TI} {g : TG} {tb u : TGn} {D : GEnds} {ys : List V} {σ : L2.St} {H : Hp} (h : wi σ H (LpG g tb { D with nx := fun ys' σ' H' => u D ys' σ' H' } ys σ)) : tGThen (tGFor wi g tb) u D ys σ H := h
theorem gGYield {te : TE} {u : TGn} {D : GEnds} {ys : List V} {σ : L2.St} {H : Hp} (hl : ys.length < sizeLine) (h : te σ H fun x H1 => u D (ys ++ [x]) σ H1) : tGThen (tGYield te) u D ys σ H := ⟨hl, h⟩
theorem gG0 {D : GEnds} {ys : List V} {σ : L2.St} {H : Hp} (h : D.nx ys σ H) : tG0 D ys σ H := h
theorem run_es {K : PySem.W.Frag} {α : Type} {r : R α} {G H : Hp} {O : Own} {v : V} {xs : List α} {Q : List V → Hp → Prop} {D : GEnds} {σ1 : Option V} (S : Sub G O H) (h : (rT K r).rel G v xs) (hl : xs.length ≤ 100000)
    (hD : ∀ ys σ H, Q ys H → D.nx ys σ H) (q : ∀ G' H' ys, Ext G G' → Sub G' O H' → Al (rP2 K r r) G' ys (sidesM xs) → Q ys H') : tEs K D [] [some v, σ1] H := by
  refine gGFor ?_
  refine gIR ?_
  refine gCons' ?_
  refine gCB ?_
  refine gCons' ?_
  refine gV rfl ?_
  refine gNil' ?_
  refine q_lenT S h ?_
  refine gNil' ?_
  refine ⟨_, rfl, by omega, by omega, fun i m ys σ H => ∃ G' σ1, Ext G G' ∧ Sub G' O H ∧ Al (rP2 K r r) G' ys ((sidesM xs).take i) ∧ σ = [some v, σ1] ∧ i + m = xs.length, ⟨xs.length, G, σ1, .refl _, S, True.intro, rfl, by omega⟩, fun i m ys σ H hI => ?_⟩
  obtain ⟨G', σ1, e, S1, a, rfl, hm⟩ := hI
  have sl := sidesM_length xs
  by_cases hi : i < xs.length
  · refine .inr ⟨by show i < (xs.length : Int).toNat; omega, _, fun ys' σ' H' (hN : ∃ G' σ1, Ext G G' ∧ Sub G' O H' ∧ Al (rP2 K r r) G' ys' ((sidesM xs).take (i + 1)) ∧ σ' = [some v, σ1]) => ?_, fun x H' hy => ?_⟩
    · obtain ⟨G2, s2, z1, z2, z3, z4⟩ := hN
      exact ⟨m - 1, by omega, G2, s2, z1, z2, z3, z4, by omega⟩
    · obtain ⟨rfl, rfl⟩ := hy
      have al := a.len
      rw [List.length_take, sl] at al
      show tGThen _ _ _ _ [some v, some (V.int (0 + (i : Nat)))] _
      refine gGYield (szl (by omega)) ?_
      have h' := R.up e h
      have g1 : getM xs (0 + (i : Nat)) = some xs[i] := by
        unfold getM ixM
        rw [if_pos (by omega), if_pos (by omega)]
        show xs[(0 + (i : Int)).toNat]? = _
        rw [show (0 + (i : Int)).toNat = i by omega]
        exact List.getElem?_eq_getElem hi
      have j2 : (i + 1) % xs.length < xs.length := Nat.mod_lt _ (by omega)
      have g2 : getM xs (((0 : Int) + (i : Nat) + 1) % (xs.length : Int)) = some xs[(i + 1) % xs.length] := by
        have e1 : ((0 : Int) + (i : Nat) + 1) % (xs.length : Int) = (((i + 1) % xs.length : Nat) : Int) := by
          rw [Int.natCast_emod]; congr 1; omega
        rw [e1]
        unfold getM ixM
        rw [if_pos (by omega), if_pos (by omega)]
        show xs[(((i + 1) % xs.length : Nat) : Int).toNat]? = _
        rw [Int.toNat_natCast]
        exact List.getElem?_eq_getElem j2
      refine gTup' ?_
      refine gCons' ?_
      refine gOp ?_
      refine gV rfl ?_
      refine gV rfl ?_
      refine q_ixT S1 h' g1 fun w1 hw1 => ?_
      refine gCons' ?_
      refine gOp ?_
      refine gV rfl ?_
      refine gOp ?_
      refine gOp ?_
      refine gV rfl ?_
      refine gC ?_
      refine ⟨_, _, rfl, rfl, ?_⟩
      refine gCB ?_
      refine gCons' ?_
      refine gV rfl ?_
      refine gNil' ?_
      refine q_lenT S1 h' ?_
      refine ⟨_, _, rfl, rfl, by omega, ?_⟩
      refine q_ixT S1 h' g2 fun w2 hw2 => ?_
      refine gNil' ?_
      refine ⟨sz2, fun p hp => ?_⟩
      have ex := S1.extNew hp (.tup [w1, w2])
      refine ⟨_, _, e.trans ex, S1.new hp, ?_, rfl⟩
      have hs : (sidesM xs)[i]? = some (xs[i], xs[(i + 1) % xs.length]) := by
        have := sidesM_get xs (List.getElem?_eq_getElem (by omega : i < (sidesM xs).length))
        rw [List.getElem?_eq_getElem (by omega : i < (sidesM xs).length)]
        rw [List.getElem?_eq_getElem hi, List.getElem?_eq_getElem j2] at this
        rw [← Prod.eta (sidesM xs)[i], ← Option.some.inj this.1, ← Option.some.inj this.2]
      rw [List.take_add_one, hs]
      refine (a.up ex).app ⟨?_, True.intro⟩
      exact ⟨p, w1, w2, rfl, .inl (.inl upd_same), R.up ex hw1, R.up ex hw2⟩
  · refine .inl ⟨by show (xs.length : Int).toNat ≤ i; omega, ?_⟩
    refine hD _ _ _ (q _ _ _ e S1 ?_)
    rw [List.take_of_length_le (by omega)] at a
    exact a
def mkDr (out : List V) (H : Hp) (Q : VK) : Prop := ∀ p, H p = none → Q (.ref p) (upd H p (.lst out))
theorem q_listEs {K : PySem.W.Frag} {α : Type} {r : R α} {G H : Hp} {O : Own} {v : V} {xs : List α} {ys : List (α × α)} {Q : VK} {E : XK} (S : Sub G O H) (h : (rT K r).rel G v xs) (e : sdM xs = some ys)
    (q : ∀ w G' H', Ext G G' → Sub G' O H' → (rM (rP2 K r r)).rel G' w ys → Q w H') : spEs K [v] H (fun out H2 => mkDr out H2 Q) E := by
  obtain ⟨c, rfl⟩ := sdM_some e
  refine ⟨α, r, G, O, v, xs, rfl, S, h, c, fun G' H' ys e1 S1 a p hp => ?_⟩
  have ex := S1.extNew hp (.lst ys)
  exact q _ _ _ (e1.trans ex) (S1.new hp) ⟨p, ys, rfl, upd_same, a.up ex⟩
theorem gListEs {K : PySem.W.Frag} {t : TA} {E : XK} {σ : L2.St} {H : Hp} {Q : VK} (h : t σ H fun vs H1 => spEs K (vs ++ []) H1 (fun out H2 => mkDr out H2 Q) E) : tListG (tCallG (spEs K) [] E t) σ H Q := h
theorem pe_listEs {X : Cx} {f : Addr} {fd : FuncData} {p p2 pos pos' : Pos} {e : Expr} {es : List Expr} {t : TA} {n : Nat} {K : PySem.W.Frag} (hr : Room n X.A) (hn : 4 ≤ n) (F : GFn X.prog X.w X.K X.mg X.base 1 f fd ["ring"] (spEs K)) (hg2 : Gl X "each_side") (hm : X.mg "each_side" = some (.ref f)) (hk : PySem.W.keepIn X.K (.ref f) = true) (hb : Binds X.K fd ["ring"] [])
    (hg : Gl X "list") (hmg : X.mg "list" = none) (ha : PA X (e :: es) t) (he : starEach (e :: es) X.env = (false, eval e X.env) :: starEach es X.env := by rfl) (hpl : (backTo pos' (starEach es X.env)).any (·.1) = false := by rfl)
    (he2 : starEach [.Call (.Name "each_side" p) (e :: es) [] pos'] X.env = (false, eval (.Call (.Name "each_side" p) (e :: es) [] pos') X.env) :: starEach [] X.env := by rfl) :
    PE X (.Call (.Name "list" p2) [.Call (.Name "each_side" p) (e :: es) [] pos'] [] pos) (tListG (tCallG (spEs K) [] (fun _ _ _ => False) t)) :=
  pe_listG (E := fun _ _ _ => False) (pgen_call F (hr.mono (by omega)) hg2 hm hk hb .nil ha (by decide) he hpl) (fun _ _ _ _ _ _ _ h => by obtain ⟨_, _, _, _, _, _, _, _, _, _, _, _, z⟩ := h; exact z.elim) (fun _ _ _ z => z.elim) (hr.mono (by omega)) hg hmg rfl (by decide) (by decide) he2
end Mr

set_option linter.all false
/-! XP: the plain part of defs that may raise. -/
namespace Mr
/-- what a def ends with -/
inductive Rs (ε α : Type) where
  | ok (a : α)
  | er (e : ε)
/-- a call that must not raise -/
def okR {ε α : Type} : Option (Rs ε α) → Option α
  | some (.ok a) => some a
  | _ => none
theorem okR_some {ε α : Type} {o : Option (Rs ε α)} {a : α} (h : okR o = some a) : o = some (.ok a) := by
  cases o with
  | none => cases h
  | some r =>
    cases r with
    | ok b => cases h; rfl
    | er e => cases h
theorem rs_ok {ε α : Type} {a b : α} (h : (Rs.ok a : Rs ε α) = .ok b) : a = b := by cases h; rfl
theorem q_ok {ε α : Type} {res : Rs ε α} {a : α} {P : α → Prop} (h : res = .ok a) (p : P a) : ∀ r, res = .ok r → P r := fun r e => by
  rw [h] at e; cases e; exact p
theorem q_noer {ε α : Type} {res : Rs ε α} {a : α} {P : ε → Prop} (h : res = .ok a) : ∀ x, res = .er x → P x := fun r e => by
  rw [h] at e; cases e
theorem and_sw {a b : Prop} (h2 : b) (h1 : a) : a ∧ b := ⟨h1, h2⟩
def memB {α : Type} [DecidableEq α] (x : α) (xs : List α) : Bool := decide (x ∈ xs)
theorem memB_iff {α : Type} [DecidableEq α] {x : α} {xs : List α} : memB x xs = true ↔ x ∈ xs := decide_eq_true_iff
/-- list * int -/
def repM {α : Type} (xs : List α) (k : Int) : Option (List α) := if -(2 ^ 63) ≤ k ∧ k < 2 ^ 63 ∧ xs.length * k.toNat ≤ 100000 then some (List.replicate k.toNat xs).flatten else none
theorem repM_some {α : Type} {xs ys : List α} {k : Int} (h : repM xs k = some ys) : (-(2 ^ 63) ≤ k ∧ k < 2 ^ 63 ∧ xs.length * k.toNat ≤ 100000) ∧ (List.replicate k.toNat xs).flatten = ys := by
  unfold repM at h
  split at h
  · rename_i c; exact ⟨c, Option.some.inj h⟩
  · cases h
end Mr
namespace Mr
/-- xs[::i] for 1 and -1 -/
def stpM {α : Type} (xs : List α) (i : Int) : Option (List α) := if i = 1 then some xs else if i = -1 then some xs.reverse else none
/-- a, b = xs -/
def two2M {α : Type} : List α → Option (α × α)
  | [a, b] => some (a, b)
  | _ => none
theorem two2M_some {α : Type} {xs : List α} {p : α × α} (h : two2M xs = some p) : xs = [p.1, p.2] := by
  match xs, h with
  | [a, b], h => cases h; rfl
/-- an append behind which the list is not looked at any more -/
def appU {α : Type} (xs : List α) : Option Unit := if xs.length < 100000 then some () else none
theorem appU_some {α : Type} {xs : List α} {u : Unit} (h : appU xs = some u) : xs.length < 100000 := by
  unfold appU at h
  split at h
  · assumption
  · cases h
end Mr

set_option Elab.async false
set_option linter.all false
set_option maxRecDepth 100000
set_option maxHeartbeats 2000000
/-! RepS: repr and format of nested data, whatever is under way: some text of at most so many signs. -/
namespace PySem
open PySem.Spec PyProof.Rows
def KpH (h h' : Heap) : Prop := ∀ b o, h.get? b = some o → h'.get? b = some o
def ReprS (prog : Program) (w : World) (h₀ : Heap) (d L : Nat) (x : Value) : Prop :=
  ∀ (base : Nat), base + L ≤ sizeLine → ∀ (A : Around) (E : Value → Shared → Prop) (s : Shared) (Q : Str → Shared → Prop), A.units + d < cLine → KpH h₀ s.heap →
    (∀ t h' tk, t.length ≤ L → KpH s.heap h' → Q t { s with heap := h', toks := tk }) → wpAny (model prog w) A (pyReprUnder base x) Q E s
section
variable {prog : Program} {w : World} {h₀ : Heap} {d L : Nat}
theorem ReprS.of_is {x : Value} {t : Str} (h : ReprIs prog w x t) (hl : t.length ≤ L) : ReprS prog w h₀ d L x :=
  fun base hb A E s Q _ _ hQ => h base (by omega) A E s Q fun tk => hQ t s.heap tk hl fun _ _ e => e
theorem ReprS.mono {x : Value} {d' L' : Nat} (h : ReprS prog w h₀ d L x) (hd : d ≤ d') (hL : L ≤ L') : ReprS prog w h₀ d' L' x :=
  fun base hb A E s Q hu hk hQ => h base (by omega) A E s Q (by omega) hk fun t h' tk ht hk' => hQ t h' tk (by omega) hk'
end
inductive ReprAllS (prog : Program) (w : World) (h₀ : Heap) (d : Nat) : List Value → List Nat → Prop
  | nil : ReprAllS prog w h₀ d [] []
  | cons {x : Value} {L : Nat} {l : List Value} {Ls : List Nat} : ReprS prog w h₀ d L x → ReprAllS prog w h₀ d l Ls → ReprAllS prog w h₀ d (x :: l) (L :: Ls)
def sumS (Ls : List Nat) : Nat := (Ls.map (· + 2)).sum
theorem sumS_cons (a : Nat) (l : List Nat) : sumS (a :: l) = a + 2 + sumS l := by simp [sumS]
section
variable {prog : Program} {w : World} {A : Around} {E : Value → Shared → Prop} {h₀ : Heap} {d : Nat}
theorem wpAny_tupFoldS (hu : A.units + d < cLine) : ∀ (l : List Value) (Ls : List Nat) (acc : Array Str) (n : Nat) (s : Shared) (Q : (Array Str × Nat) → Shared → Prop), ReprAllS prog w h₀ d l Ls → n + sumS Ls ≤ sizeLine → KpH h₀ s.heap →
    (∀ (ts : List Str) h' tk, ts.length = l.length → piled ts ≤ sumS Ls → KpH s.heap h' → Q ⟨acc ++ ts.toArray, n + piled ts⟩ { s with heap := h', toks := tk }) →
    wpAny (model prog w) A (forIn l (⟨acc, n⟩ : (Array Str × Nat)) tupBody) Q E s := by
  intro l
  induction l with
  | nil =>
    intro Ls acc n s Q hT _ _ h
    cases hT
    have h0 := h [] s.heap s.toks rfl (Nat.zero_le _) fun _ _ e => e
    simp only [List.forIn_nil]
    exact wpAny_pure (by simpa [piled] using h0)
  | cons x l ih =>
    intro Ls acc n s Q hT hn hk0 h
    cases hT with
    | cons hx hl =>
      rename_i L Ls'
      rw [sumS_cons] at hn
      rw [List.forIn_cons]
      refine wpAny_bind (wpAny_bind (hx (n + 1) (by omega) _ _ _ _ hu hk0 fun t h' tk ht hkp => wpAny_pure ?_))
      refine ih Ls' (acc.push t) (n + (t.length + 2)) _ Q hl (by omega) (fun b o e => hkp _ _ (hk0 _ _ e)) fun ts h'' tk' hts hpl hk2 => ?_
      have h1 := h (t :: ts) h'' tk' (by simp [hts]) (by rw [piled_cons, sumS_cons]; omega) fun b o e => hk2 _ _ (hkp _ _ e)
      have e : n + piled (t :: ts) = n + (t.length + 2) + piled ts := by rw [piled_cons]; omega
      rw [e] at h1
      simpa using h1
end
section
variable {prog : Program} {w : World} {h₀ : Heap} {d : Nat} {a : Addr} {o : Obj} {items : Array Value} {n : Nat} {Ls : List Nat}
theorem wpAny_tuple_reprAtS {A : Around} {s : Shared} {R : Result → Shared → Prop} {base : Nat} {A0 : Around} (ha : h₀.get? a = some o) (hd : o.data = .seq items n) (hT : ReprAllS prog w h₀ d items.toList Ls) (hu : A.units + d < cLine) (hk0 : KpH h₀ s.heap)
    (hR : ∀ (m : Str) h' u tk, m.length ≤ sumS Ls + 7 → KpH s.heap h' → R (.ok (.ret (.str m u))) { s with heap := h', toks := tk }) (hsz : base + (sumS Ls + 7) ≤ sizeLine) :
    wpAny (model prog w) A (Builtin.tupleReprAt base ⟨[.ref a], []⟩) (fun fin s' => match fin with | .done f => R (.ok f) s' | .again c' => c'.quiet = true ∧ codeAny (model prog w) A0 c' R s') (fun e s' => R (.error e) s') s := by
  rw [tuple_repr_tree]
  refine wpAny_bind (fmt_underWay fun b => ?_)
  cases b with
  | true =>
    refine PySem.W.KFB.if_so rfl ?_
    refine wpAny_bind (wpAny_rule ?_)
    refine wpAny_bind (wpAny_mkStr (wpAny_pure ?_) (by decide +kernel))
    exact hR "(...)" s.heap _ _ (Nat.le_trans fmt_way (by omega)) fun _ _ e => e
  | false =>
    refine PySem.W.KFB.if_not rfl ?_
    unfold tupleReprRest Builtin.Tuple.tupleItemsOf
    refine wpAny_bind (wpAny_bind (wpAny_seqItems (hk0 _ _ ha) hd (wpAny_pure ?_)))
    rw [← Array.forIn_toList]
    refine wpAny_bind (wpAny_tupFoldS hu _ Ls _ _ _ _ hT (by omega) hk0 fun ts h' tk hlen hpl hkp => ?_)
    have hl : ts.length = items.size := by simpa using hlen
    have htx := fmt_text ts
    refine wpAny_bind (wpAny_mkStr (wpAny_pure ?_) (by have : (tupleText ts).length ≤ sizeLine := by omega
                                                       simpa [tupleText, hl] using this))
    have h1 := hR (tupleText ts) h' tk (tk + 1) (by omega) hkp
    simpa [tupleText, hl] using h1
theorem call_tuple_reprS {A : Around} {E : Value → Shared → Prop} {s : Shared} {Q : Value → Shared → Prop} (ha : h₀.get? a = some o) (hc : o.cls = .type "tuple") (hd : o.data = .seq items n) (hT : ReprAllS prog w h₀ d items.toList Ls) (hu : A.units + (d + 1) < cLine) (hk0 : KpH h₀ s.heap)
    (hQ : ∀ (m : Str) h' u tk, m.length ≤ sumS Ls + 7 → KpH s.heap h' → Q (.str m u) { s with heap := h', toks := tk }) (hsz : sumS Ls + 7 ≤ sizeLine) :
    wpAny (model prog w) A (call (.builtin "tuple.__repr__") [.ref a]) Q E s :=
  wpAny_call (codeAny_call_builtin_own (Code.quiet_builtin _ (by decide +kernel)) F.entry_tuple_repr (F.slot_tuple_repr.check _ _ _ _ _ _ _ _ ⟨o, hk0 _ _ ha, hc⟩ (F.args_tuple_repr_1 _)
    (wpOwn_of_wpAny (wpAny_tuple_reprAtS (base := 0) (R := callEnd Q E) ha hd hT (by rw [units_under_tuple_repr]; omega) hk0 hQ (by omega)))))
theorem ReprS.tuple (ha : h₀.get? a = some o) (hc : o.cls = .type "tuple") (hd : o.data = .seq items n) (hT : ReprAllS prog w h₀ d items.toList Ls) : ReprS prog w h₀ (d + 1) (sumS Ls + 7) (.ref a) := by
  intro base hb A E s Q hu hk0 hQ
  refine wpAny_pyReprUnder_ref (by omega) (wpAny_pyReprObjUnder_twin (twin := "tuple.__repr__.under") ⟨o, hk0 _ _ ha, hc⟩ F.slot_tuple_repr rfl (by omega) ?_)
  refine call_twin_own (F.quiet_tuple_repr_under _) F.entry_tuple_repr_under F.check_tuple_repr_under ⟨o, hk0 _ _ ha, hc⟩ F.slot_tuple_repr (F.args_tuple_repr_1 _) (wpOwn_of_wpAny ?_)
  exact wpAny_tuple_reprAtS (R := callEnd _ E) ha hd hT (by rw [units_under_tuple_repr_under]; omega) hk0 (fun m h' u tk hm hk => ⟨⟨_, _, rfl⟩, ⟨_, _, rfl, hQ m h' tk hm hk⟩⟩) hb
end
open Sem in
theorem wpAny_list_repr_headS {M : Model} {A : Around} {E : Value → Shared → Prop} {s : Shared} {Q : Fin → Shared → Prop} {a : Addr} {o : Obj} {x : Value} {l : List Value} {n : Nat} {b : Nat}
    (hget : s.heap.get? a = some o) (hd : o.data = .seq (x :: l).toArray n)
    (h2 : wpAny M A (do rule "list.__repr__.in-itself"; retStr "[...]") Q E s)
    (h : wpAny M A (do again (.builtin "list.__repr__.loop" ⟨[.ref a, rawInt 0, ← newList [], rawInt b], []⟩)) Q E s) : wpAny M A (Builtin.listReprAt b ⟨[.ref a], []⟩) Q E s := by
  intro Γ p hΓ
  have h1 := h Γ p hΓ
  have h3 := h2 Γ p hΓ
  unfold Builtin.listReprAt
  simp [slotArgs, Builtin.List.listItems, seqItems?, wp_load_of (h := hget), hd, stack]
  show wp M Γ (if (Γ.below.any _) = true then _ else _) _ _ p s
  split
  · simpa using h3
  · exact h1
theorem list_text_le : ∀ ts : List Str, (listText ts).length ≤ piled ts + 2
  | [] => by decide +kernel
  | t :: r => by
    have h := textFrom_length_pos r 1 (("[" : Str) ++ (if (0 : Nat) > 0 then ", " else "" : String) ++ t) (Nat.succ_pos 0)
    have e : ((("[" : Str) ++ (if (0 : Nat) > 0 then ", " else "" : String) ++ t)).length = 1 + t.length := by
      rw [strLen_append, strLen_append]; rfl
    have hX : (listText (t :: r)).length = (textFrom 1 (("[" : Str) ++ (if (0 : Nat) > 0 then ", " else "" : String) ++ t) r).length + 1 := by
      show (textFrom 0 "[" (t :: r) ++ "]").length = _
      rw [strLen_append]; rfl
    rw [hX, h, e, piled_cons]; omega
theorem ReprAllS.item {prog : Program} {w : World} {h₀ : Heap} {d : Nat} : ∀ {l : List Value} {Ls : List Nat}, ReprAllS prog w h₀ d l Ls → ∀ (i : Nat) (x : Value), l[i]? = some x → ∃ L, Ls[i]? = some L ∧ ReprS prog w h₀ d L x
  | _, _, .nil, i, x, h => by simp at h
  | _, _, .cons h hl, 0, x, e => by cases e; exact ⟨_, rfl, h⟩
  | _, _, .cons h hl, i + 1, x, e => hl.item i x e
theorem sumS_take_succ {Ls : List Nat} {i L : Nat} (h : Ls[i]? = some L) : sumS (Ls.take (i + 1)) = sumS (Ls.take i) + (L + 2) := by
  rw [List.take_add_one, h]
  simp [sumS]
theorem sumS_take_le (Ls : List Nat) (i : Nat) : sumS (Ls.take i) ≤ sumS Ls := by
  have h : sumS Ls = sumS (Ls.take i) + sumS (Ls.drop i) := by
    have : sumS (Ls.take i ++ Ls.drop i) = sumS (Ls.take i) + sumS (Ls.drop i) := by simp only [sumS, List.map_append, List.sum_append]
    rw [← this, List.take_append_drop]
  omega
open Builtin Builtin.List in
theorem codeAny_list_repr_loopS {prog : Program} {w : World} {A : Around} {R : Result → Shared → Prop} {a P : Addr} (hne : a ≠ P) {items : Array Value} {Ls : List Nat} {h₀ : Heap} {d base : Nat} (hu : A.units + (d + 1) < cLine) (hPf : h₀.get? P = none)
    (hT : ReprAllS prog w h₀ d items.toList Ls) (hsi : items.size ≤ sizeLine) (hsz : base + (sumS Ls + 7) ≤ sizeLine) :
    ∀ (k i : Nat) (s : Shared) (oa : Obj) (na : Nat) (acc : Array Value) (c : Nat) (done : List (Str × Tok)), items.size - i = k → i ≤ items.size → KpH h₀ s.heap →
    s.heap.get? a = some oa → oa.data = .seq items na →
    s.heap.get? P = some { cls := .type "list", dict := none, data := .seq acc c, slots := #[] } → acc.toList = strValues done → done.length = i → piled (done.map (·.1)) ≤ sumS (Ls.take i) →
    (∀ (m : Str) h' u tk, m.length ≤ sumS Ls + 7 → (∀ b o, b ≠ P → s.heap.get? b = some o → h'.get? b = some o) → R (.ok (.ret (.str m u))) { s with heap := h', toks := tk }) →
    codeAny (model prog w) A (.builtin "list.__repr__.loop" ⟨[.ref a, rawInt i, .ref P, rawInt ((base + piled (done.map (·.1)) : Nat) : Int)], []⟩) R s := by
  intro k
  induction k with
  | zero =>
    intro i s oa na acc c done hk hi hk0 ha hda hP hacc hdone hpl hR
    have hin : i = items.size := by omega
    have hp2 := sumS_take_le Ls i
    have hlt := list_text_le (done.map (·.1))
    refine codeAny_builtin F.entry_list_repr_loop ?_
    show wpAny _ _ («list.__repr__.loop» ⟨[.ref a, .int i 0, .ref P, .int ((base + piled (done.map (·.1)) : Nat) : Int) 0], []⟩) _ _ s
    rw [repr_loop_tree]
    refine wpAny_bind (wpAny_listItems ha hda ?_)
    have hnone : items[(i : Int).toNat]? = none := by simp [hin]
    simp only [hnone]
    unfold reprEnd
    refine wpAny_bind (wpAny_listItems hP rfl ?_)
    rw [hacc, repr_fold]
    refine wpAny_bind (wpAny_pure ?_)
    refine wpAny_bind (wpAny_mkStr (wpAny_pure ?_) (by show (listText (done.map (·.1))).length ≤ _; omega))
    exact hR (listText (done.map (·.1))) s.heap _ _ (by omega) (fun _ _ _ e => e)
  | succ k ih =>
    intro i s oa na acc c done hk hi hk0 ha hda hP hacc hdone hpl hR
    have hlt : i < items.size := by omega
    obtain ⟨L, hL, hrep⟩ := hT.item i items[i] (by simp [hlt])
    have hp1 := sumS_take_succ hL
    have hp2 := sumS_take_le Ls (i + 1)
    refine codeAny_builtin F.entry_list_repr_loop ?_
    show wpAny _ _ («list.__repr__.loop» ⟨[.ref a, .int i 0, .ref P, .int ((base + piled (done.map (·.1)) : Nat) : Int) 0], []⟩) _ _ s
    rw [repr_loop_tree]
    refine wpAny_bind (wpAny_listItems ha hda ?_)
    have hsome : items[(i : Int).toNat]? = some items[i] := by simp [hlt]
    simp only [hsome]
    rw [Int.toNat_natCast]
    refine wpAny_bind (wpAny_holding (hrep (base + piled (done.map (·.1)) + 1) (by omega) _ _ _ _ (by rw [units_under_list_loop]; omega) hk0 fun t h' tk ht hkp => ?_))
    refine wpAny_bind (wpAny_mkStr ?_ (by omega))
    refine wpAny_bind ?_
    show wpAny _ _ (updateSeq P _) _ _ _
    have hasz : acc.size ≤ sizeLine := by
      have e1 : acc.toList.length = acc.size := by simp
      have e2 : (strValues done).length = done.length := by simp [strValues]
      rw [hacc] at e1; omega
    refine wpAny_updateSeq (hkp _ _ hP) rfl (wpAny_pure ⟨F.quiet_list_repr_loop _, ?_⟩) hasz
    have e1 : ((i : Int) + 1) = ((i + 1 : Nat) : Int) := by omega
    have e3 : (done ++ [(t, tk)]).map (·.1) = done.map (·.1) ++ [t] := by simp
    have e4 : piled ((done ++ [(t, tk)]).map (·.1)) = piled (done.map (·.1)) + (t.length + 2) := by rw [e3, piled_append, piled_cons, piled_nil]
    have e2 : base + piled (done.map (·.1)) + (t.length + 2) = base + piled ((done ++ [(t, tk)]).map (·.1)) := by omega
    rw [e1, e2]
    refine ih (i + 1) _ oa na (acc.push (.str t tk)) _ (done ++ [(t, tk)]) (by omega) hlt (fun b o e => (Heap.get?_update_other _ _ (fun h : P = b => by rw [← h, hPf] at e; cases e)).trans (hkp _ _ (hk0 _ _ e))) ((Heap.get?_update_other _ _ (fun h : P = a => hne h.symm)).trans (hkp _ _ ha)) hda (Heap.get?_update_self _ (hkp _ _ hP) rfl) (by simp [hacc, strValues]) (by simp [hdone]) (by omega) fun m h'' u tk' hm hh => ?_
    exact hR m h'' u tk' hm fun b o hb e => hh b o hb ((Heap.get?_update_other _ _ (fun h : P = b => hb h.symm)).trans (hkp _ _ e))
end PySem

set_option Elab.async false
set_option linter.all false
set_option maxRecDepth 100000
set_option maxHeartbeats 2000000
/-! RepD: format of any data. -/
namespace PySem
open PySem.Spec PyProof.Rows
section
variable {prog : Program} {w : World} {h₀ : Heap} {d : Nat} {a : Addr} {o : Obj} {x : Value} {l : List Value} {n : Nat} {Ls : List Nat}
theorem wpAny_list_reprAtS {A : Around} {s : Shared} {R : Result → Shared → Prop} {base : Nat} (ha : h₀.get? a = some o) (hd : o.data = .seq (x :: l).toArray n) (hT : ReprAllS prog w h₀ d (x :: l) Ls) (hu : A.units + (d + 1) < cLine) (hk0 : KpH h₀ s.heap)
    (hsi : (x :: l).length ≤ sizeLine) (hR : ∀ (m : Str) h' u tk, m.length ≤ sumS Ls + 7 → KpH s.heap h' → R (.ok (.ret (.str m u))) { s with heap := h', toks := tk }) (hsz : base + (sumS Ls + 7) ≤ sizeLine) :
    wpAny (model prog w) A.in1 (Builtin.listReprAt base ⟨[.ref a], []⟩) (fun fin s' => match fin with | .done f => R (.ok f) s' | .again c' => c'.quiet = true ∧ codeAny (model prog w) A c' R s') (fun e s' => R (.error e) s') s := by
  have hPf : h₀.get? s.heap.objs.size = none := by
    cases e : h₀.get? s.heap.objs.size with
    | none => rfl
    | some o => exact absurd (Heap.lt_size (hk0 _ _ e)) (Nat.lt_irrefl _)
  refine wpAny_list_repr_headS (A := A.in1) (hk0 _ _ ha) hd ?_ ?_
  · refine wpAny_bind (wpAny_rule ?_)
    refine wpAny_bind (wpAny_mkStr (wpAny_pure ?_) (by decide +kernel))
    exact hR "[...]" s.heap _ _ (Nat.le_trans (show ("[...]" : Str).length ≤ 5 by decide +kernel) (by omega)) fun _ _ e => e
  · refine wpAny_bind (m := newList []) (wpAny_newObj_type ?_)
    refine wpAny_pure ⟨F.quiet_list_repr_loop _, ?_⟩
    exact codeAny_list_repr_loopS (P := s.heap.objs.size) (items := (x :: l).toArray) (Nat.ne_of_lt (Heap.lt_size (hk0 _ _ ha))) hu hPf (by simpa using hT) (by simpa using hsi) hsz _ 0 _ o n #[] _ [] rfl (Nat.zero_le _)
      (fun b o e => Heap.get?_push_of_some _ (hk0 _ _ e)) (Heap.get?_push_of_some _ (hk0 _ _ ha)) hd (Heap.get?_push_size _ rfl) rfl rfl (Nat.zero_le _) fun m h' u tk hm hk => hR m h' u tk hm fun b o e => hk b o (Nat.ne_of_lt (Heap.lt_size e)) (Heap.get?_push_of_some _ e)
theorem call_list_reprS {A : Around} {E : Value → Shared → Prop} {s : Shared} {Q : Value → Shared → Prop} (ha : h₀.get? a = some o) (hc : o.cls = .type "list") (hd : o.data = .seq (x :: l).toArray n) (hT : ReprAllS prog w h₀ d (x :: l) Ls) (hu : A.units + (d + 1) < cLine) (hk0 : KpH h₀ s.heap)
    (hsi : (x :: l).length ≤ sizeLine) (hQ : ∀ (m : Str) h' u tk, m.length ≤ sumS Ls + 7 → KpH s.heap h' → Q (.str m u) { s with heap := h', toks := tk }) (hsz : sumS Ls + 7 ≤ sizeLine) :
    wpAny (model prog w) A (call (.builtin "list.__repr__") [.ref a]) Q E s :=
  wpAny_call (codeAny_call_builtin F.slot_list_repr.plain F.entry_list_repr (F.slot_list_repr.check _ _ _ _ _ _ _ _ ⟨o, hk0 _ _ ha, hc⟩ (F.args_list_repr_1 _)
    (wpAny_list_reprAtS (base := 0) (R := callEnd Q E) ha hd hT hu hk0 hsi hQ (by omega))))
theorem ReprAllS.len2 : ∀ {l : List Value} {Ls : List Nat}, ReprAllS prog w h₀ d l Ls → 2 * l.length ≤ sumS Ls
  | _, _, .nil => Nat.zero_le _
  | _, _, .cons _ h => by have := h.len2; rw [sumS_cons, List.length_cons]; omega
theorem ReprAllS.mono {d' : Nat} (hd : d ≤ d') : ∀ {l : List Value} {Ls : List Nat}, ReprAllS prog w h₀ d l Ls → ReprAllS prog w h₀ d' l Ls
  | _, _, .nil => .nil
  | _, _, .cons h hl => .cons (h.mono hd (Nat.le_refl _)) (ReprAllS.mono hd hl)
theorem ReprS.list (ha : h₀.get? a = some o) (hc : o.cls = .type "list") (hd : o.data = .seq (x :: l).toArray n) (hT : ReprAllS prog w h₀ d (x :: l) Ls) : ReprS prog w h₀ (d + 1) (sumS Ls + 7) (.ref a) := by
  intro base hb A E s Q hu hk0 hQ
  have hsi : (x :: l).length ≤ sizeLine := by have := hT.len2; omega
  refine wpAny_pyReprUnder_ref (by omega) (wpAny_pyReprObjUnder_twin (twin := "list.__repr__.under") ⟨o, hk0 _ _ ha, hc⟩ F.slot_list_repr.toG rfl (by omega) ?_)
  refine call_twin_plain F.plain_list_repr_under F.entry_list_repr_under F.check_list_repr_under ⟨o, hk0 _ _ ha, hc⟩ F.slot_list_repr.toG (F.args_list_repr_1 _) ?_
  exact wpAny_list_reprAtS (R := callEnd _ E) ha hd hT hu hk0 hsi (fun m h' u tk hm hk => ⟨⟨_, _, rfl⟩, ⟨_, _, rfl, hQ m h' tk hm hk⟩⟩) hb
end
/-! ### data -/
mutual
/-- data that can be shown: at most so many signs -/
def rcost : PyData → Nat
  | .none => 5
  | .bool _ => 5
  | .int i => (Str.ofString (toString i)).length
  | .str y => (reprText y).length
  | .tuple ds => rcostAll ds + 7
  | .list ds => rcostAll ds + 7
  | _ => 0
def rcostAll : List PyData → Nat
  | [] => 0
  | d :: ds => rcost d + 2 + rcostAll ds
end
mutual
def rok : PyData → Bool
  | .none => true
  | .bool _ => true
  | .int i => decide (i.natAbs.log2 < 1920)
  | .str y => decide ((reprText y).length ≤ sizeLine)
  | .tuple ds => rokAll ds
  | .list ds => rokAll ds
  | _ => false
def rokAll : List PyData → Bool
  | [] => true
  | d :: ds => rok d && rokAll ds
end
section
variable {prog : Program} {w : World} {h₀ : Heap}
theorem rcostAll_sum : ∀ ds : List PyData, sumS (ds.map rcost) = rcostAll ds
  | [] => rfl
  | d :: ds => by rw [List.map_cons, sumS_cons, rcostAll_sum ds]; simp only [rcostAll]
mutual
theorem ReprS.of_reads {v : Value} {d : PyData} {as : List Addr} (r : Reads h₀ v d as) (hs : rok d = true) : ReprS prog w h₀ d.depth (rcost d) v := by
  cases r with
  | none => exact ReprS.of_is ReprIs.none (by simp only [rcost]; decide +kernel)
  | bool b => exact ReprS.of_is (ReprIs.bool b) (by simp only [rcost]; cases b <;> decide +kernel)
  | int i t =>
    simp only [rok, decide_eq_true_eq] at hs
    exact ReprS.of_is (ReprIs.int t hs) (by simp only [rcost]; exact Nat.le_refl _)
  | str y t =>
    simp only [rok, decide_eq_true_eq] at hs
    exact ReprS.of_is (ReprIs.str y t hs) (by simp only [rcost]; exact Nat.le_refl _)
  | tuple h1 h2 h3 h4 =>
    rename_i o vs n xs
    simp only [rok] at hs
    have h5 := ReprAllS.of_reads h4 hs
    simp only [rcost, PyData.depth]
    rw [← rcostAll_sum]
    exact (ReprS.tuple h1 h2 h3 h5).mono (by omega) (Nat.le_refl _)
  | list h1 h2 h3 h4 =>
    rename_i o vs n xs bs
    simp only [rok] at hs
    have h5 := ReprAllS.of_reads h4 hs
    simp only [rcost, PyData.depth]
    rw [← rcostAll_sum]
    obtain ⟨l⟩ := vs
    cases l with
    | nil =>
      intro base hb A E s Q hu hk0 hQ
      exact wpAny_pyReprUnder_ref (by omega) (wpAny_pyReprObjUnder_list_empty ⟨o, hk0 _ _ h1, h2⟩ (by omega) (hk0 _ _ h1) h3 ⟨_, _, rfl, hQ "[]" s.heap _ (Nat.le_trans (show ("[]" : Str).length ≤ 2 by decide +kernel) (by omega)) fun _ _ e => e⟩)
    | cons x l => exact (ReprS.list h1 h2 h3 h5).mono (by omega) (Nat.le_refl _)
  | dict h1 h2 h3 h4 h5 => simp [rok] at hs
theorem ReprAllS.of_reads {vs : List Value} {ds : List PyData} {as : List Addr} (r : ReadsAll h₀ vs ds as) (hs : rokAll ds = true) : ReprAllS prog w h₀ (PyData.depthAll ds) vs (ds.map rcost) := by
  cases r with
  | nil => exact .nil
  | cons h1 h2 =>
    rename_i v vs d ds as bs
    simp only [rokAll, Bool.and_eq_true] at hs
    have q1 := ReprS.of_reads h1 hs.1
    have q2 := ReprAllS.of_reads h2 hs.2
    simp only [PyData.depthAll]
    exact .cons (q1.mono (Nat.le_max_left _ _) (Nat.le_refl _)) (q2.mono (Nat.le_max_right _ _))
end
end
/-- {v} of any data: some text -/
theorem formatField_some {prog : Program} {w : World} {A : Around} {E : Value → Shared → Prop} {s : Shared} {Q : Value → Shared → Prop} {v : Value} {d : PyData} {as : List Addr} (r : Reads s.heap v d as) (hs : rok d = true) (hz : rcost d + 10 ≤ sizeLine) (hu : A.units + (d.depth + 2) < cLine)
    (hstr : ∀ y, d = .str y → y.length ≤ sizeLine)
    (hQ : ∀ (m : Str) h' u tk, (m.length ≤ rcost d + 10 ∨ d = .str m) → KpH s.heap h' → Q (.str m u) { s with heap := h', toks := tk }) : wpAny (model prog w) A (formatField v Str.empty) Q E s := by
  have q := ReprS.of_reads (prog := prog) (w := w) r hs
  cases r with
  | none => exact wpAny_formatField_none (hQ "None" s.heap _ _ (.inl (Nat.le_trans (show ("None" : Str).length ≤ 5 by decide +kernel) (by omega))) fun _ _ e => e)
  | bool b =>
    refine wpAny_formatField_bool (hQ _ s.heap _ _ (.inl ?_) fun _ _ e => e)
    have h5 : (Str.ofString (if b then "True" else "False")).length ≤ 5 := by cases b <;> decide +kernel
    have h6 : ∀ z : Str, z.length ≤ 5 → z.length ≤ rcost (.bool b) + 10 := fun z hz => by omega
    refine h6 _ ?_
    cases b <;> decide +kernel
  | int i t =>
    simp only [rok, decide_eq_true_eq] at hs
    exact wpAny_formatField_int hs (hQ _ s.heap _ _ (.inl (by simp only [rcost]; omega)) fun _ _ e => e)
  | str y t => exact wpAny_formatField_str (hQ y s.heap _ _ (.inr rfl) fun _ _ e => e) (hQ y s.heap _ _ (.inr rfl) fun _ _ e => e) (hstr y rfl)
  | tuple h1 h2 h3 h4 =>
    simp only [rok] at hs
    have h5 := ReprAllS.of_reads (prog := prog) (w := w) h4 hs
    simp only [rcost, PyData.depth] at hz hu hQ
    rw [← rcostAll_sum] at hz hQ
    exact wpAny_formatField_slot (fun _ _ => nofun) (by omega) ⟨_, h1, h2⟩ F.slot_tuple_format F.slot_tuple_str F.slot_tuple_repr
      (call_tuple_reprS (A := A.in1.in1) (s := { s with toks := s.toks + 1 }) h1 h2 h3 h5 (by show A.units + 1 + 1 + _ < cLine; omega) (fun _ _ e => e) (fun m h' u tk hm hk => ⟨_, _, rfl, hQ m h' u tk (.inl (by omega)) hk⟩) (by omega))
  | list h1 h2 h3 h4 =>
    rename_i o vs n xs bs
    simp only [rok] at hs
    have h5 := ReprAllS.of_reads (prog := prog) (w := w) h4 hs
    simp only [rcost, PyData.depth] at hz hu hQ
    rw [← rcostAll_sum] at hz hQ
    obtain ⟨l⟩ := vs
    cases l with
    | nil =>
      exact wpAny_formatField_slot (fun _ _ => nofun) (by omega) ⟨_, h1, h2⟩ F.slot_list_format F.slot_list_str F.slot_list_repr.toG
        (call_list_repr_empty (s := { s with toks := s.toks + 1 }) ⟨o, h1, h2⟩ h1 h3 ⟨_, _, rfl, hQ "[]" s.heap _ _ (.inl (Nat.le_trans (show ("[]" : Str).length ≤ 2 by decide +kernel) (by omega))) fun _ _ e => e⟩)
    | cons x l =>
      have hl2 : 2 * (x :: l).length ≤ sumS (List.map rcost xs) := h5.len2
      exact wpAny_formatField_slot (fun _ _ => nofun) (by omega) ⟨_, h1, h2⟩ F.slot_list_format F.slot_list_str F.slot_list_repr.toG
        (call_list_reprS (A := A.in1.in1) (s := { s with toks := s.toks + 1 }) h1 h2 h3 h5 (by show A.units + 1 + 1 + _ < cLine; omega) (fun _ _ e => e) (by omega) (fun m h' u tk hm hk => ⟨_, _, rfl, hQ m h' u tk (.inl (by omega)) hk⟩) (by omega))
  | dict h1 h2 h3 h4 h5 => simp [rok] at hs
end PySem

set_option linter.all false
set_option maxRecDepth 100000
/-! AnyP: plain functions on data of any kind. -/
namespace Mr
open PySem PySem.Spec
def isTup : PyData → Bool
  | .tuple _ => true
  | _ => false
def isLst : PyData → Bool
  | .list _ => true
  | _ => false
def isStr : PyData → Bool
  | .str _ => true
  | _ => false
def isBl : PyData → Bool
  | .bool _ => true
  | _ => false
def isInt : PyData → Bool
  | .int _ => true
  | .bool _ => true
  | _ => false
/-- none: a kind that the rules do not cover -/
def kindA : PyData → Option String
  | .none => some "NoneType"
  | .bool _ => some "bool"
  | .int _ => some "int"
  | .str _ => some "str"
  | .list _ => some "list"
  | .tuple _ => some "tuple"
  | _ => none
def isA (c : String) (d : PyData) : Option Bool := (kindA d).map fun k => match c with
  | "tuple" => k == "tuple"
  | "list" => k == "list"
  | "str" => k == "str"
  | "bool" => k == "bool"
  | "int" => k == "int" || k == "bool"
  | _ => false
def lenA : PyData → Option Int
  | .tuple ds => some (ds.length : Int)
  | .list ds => some (ds.length : Int)
  | _ => none
def ixA (d : PyData) (i : Int) : Option PyData := match d with
  | .tuple ds => getM ds i
  | _ => none
def shA (d : PyData) : Option PyData := if (d.canLay0 && decide (d.depth ≤ 64)) = true then some d else none
theorem shA_some {d e : PyData} (h : shA d = some e) : (d.canLay0 && decide (d.depth ≤ 64)) = true ∧ d = e := by
  unfold shA at h
  split at h
  · rename_i c; exact ⟨c, Option.some.inj h⟩
  · cases h
def eqA (d e : PyData) : Option Bool := (shA d).bind fun d => (shA e).bind fun e => some (PyData.eqv d e)
def inA (d : PyData) (ds : List PyData) : Option Bool := (shA d).bind fun d => (shA (.list ds)).bind fun _ => some (ds.any fun z => PyData.eqv z d)
def fmtB (d : PyData) : Bool := rok d && (decide (rcost d + 10 ≤ 1000000) && (decide (d.depth ≤ 50) && (match d with
  | .str y => decide (y.length ≤ 1000000)
  | _ => true)))
def fmtM (d : PyData) : Option Unit := if fmtB d = true then some () else none
theorem fmtM_some {d : PyData} {u : Unit} (h : fmtM d = some u) : fmtB d = true := by
  unfold fmtM at h
  split at h
  · assumption
  · cases h
def decI : PyData → Option Int
  | .int i => some i
  | _ => none
def decB : PyData → Option Bool
  | .bool i => some i
  | _ => none
def decS : PyData → Option Str
  | .str i => some i
  | _ => none
def decEn {α : Type} (e : α → Str) (tb : List α) : PyData → Option α
  | .str y => tb.find? fun a => decide (e a = y)
  | _ => none
def dec2 {α β : Type} (f0 : PyData → Option α) (f1 : PyData → Option β) : PyData → Option (α × β)
  | .tuple [a, b] => (f0 a).bind fun x => (f1 b).bind fun y => some (x, y)
  | _ => none
def dec3 {α β γ : Type} (f0 : PyData → Option α) (f1 : PyData → Option β) (f2 : PyData → Option γ) : PyData → Option (α × β × γ)
  | .tuple [a, b, c] => (f0 a).bind fun x => (f1 b).bind fun y => (f2 c).bind fun z => some (x, y, z)
  | _ => none
end Mr

set_option Elab.async false
set_option linter.all false
set_option maxRecDepth 100000
set_option maxHeartbeats 2000000
/-! FmtD: {x} of any data in an f-string. -/
namespace L2
open PySem PySem.Spec PyProof.Rows
def FmtOk (d : PyData) : Prop := rok d = true ∧ rcost d + 10 ≤ 1000000 ∧ d.depth ≤ 50 ∧ ∀ y, d = .str y → y.length ≤ 1000000
def tFmtD (K : PySem.W.Frag) (te : TE) : TE := fun σ H Q => te σ H fun x H1 => ∃ d, Dp K H1 x d ∧ FmtOk d ∧ ∀ m : Str, m.length ≤ 1000000 → Q (.str m) H1
theorem pe_fmtD {X : Cx} {e : Expr} {te : TE} {pos : Pos} {k : Nat} (hr : Room k X.A) (he : PE X e te) : PE X (.FormattedValue e (-1) none pos) (tFmtD X.K te) := by
  refine ⟨fun pins s σ H Q I h => ?_⟩
  refine wpAny_FormattedValue_plain (thn (he.run pins s σ H _ I h) fun v s1 hv => ?_)
  obtain ⟨x, H1, I1, r1, d, hd, ⟨h1, h2, h3, h4⟩, q⟩ := hv
  obtain ⟨as, rd⟩ := Dp.reads I1 d x v hd r1
  have hu := hr.units
  have hz : (1000000 : Nat) ≤ sizeLine := by decide
  refine formatField_some rd h1 (by omega) (by omega) (fun y hy => Nat.le_trans (h4 y hy) hz) fun m h' u tk hm hk => ?_
  have hm' : m.length ≤ 1000000 := by
    rcases hm with z | z
    · omega
    · exact h4 m z
  refine ⟨.str m, H1, ?_, ⟨u, rfl⟩, q m hm'⟩
  exact I1.call' (ch := []) rfl (Un.kept hk) (I1.hok.kept hk) I1.bare fun b z => by simp at z
end L2

set_option Elab.async false
set_option linter.all false
set_option maxRecDepth 100000
set_option maxHeartbeats 2000000
/-! ExcP: C.__init__(self, ..) of an own exception class C without an own __init__. -/
namespace L2
open PySem PySem.Spec PyProof.Rows
/-- C's __init__ is ValueError's -/
structure InitC (K : PySem.W.Frag) (C : Addr) : Prop where
  ga : PySem.W.specialIn K (.ref C) "__getattribute__" = some (some (.builtin "type.__getattribute__"))
  ty : PySem.W.typeIn K (.ref C) = some (.type "type")
  rd : PySem.W.readsIn K C (.type "type") = true
  vi : PySem.W.findCls K (.ref C) (.type "type") "__init__" = some (.val (.builtin "ValueError.__init__"))
section
variable {X : Cx} {e : Expr} {es : List Expr} {ta : TA} {x : Str} {C0 : Addr} {p1 p2 pos : Pos}
theorem pe_oinit {pl : Sem Bool} (hg : Gl X x) (hm : X.mg x = some (.ref C0)) (T0 : InitC X.K C0) (ha : PA X (e :: es) ta)
    (hd : (x == ("__debug__" : Str)) = false := by decide)
    (hc : eval (.Call (.Attribute (.Name x p1) "__init__" p2) (e :: es) [] pos) X.env = (do
      let ov ← eval (.Name x p1) X.env
      standAt p2.atName
      let (f, first) ← holding [ov] (getMethod ov "__init__" pl)
      callWith pos f first (backTo pos (starEach (e :: es) X.env)) (backToKw pos (keywordEach [] X.env))) := by rfl)
    (he : starEach (e :: es) X.env = (false, eval e X.env) :: starEach es X.env := by rfl) (hpl : (backTo pos (starEach es X.env)).any (·.1) = false := by rfl) :
    PE X (.Call (.Attribute (.Name x p1) "__init__" p2) (e :: es) [] pos) (tVeI X.K ta) := by
  refine ⟨fun pins s σ H Q I h => ?_⟩
  refine PySem.W.methodCall_KW (ld_glob I hg hm ?_ hd) hc
  obtain ⟨m, fr⟩ := I.fr
  refine PySem.W.method_of_cls fr I.ok.mod.kin T0.ga ?_
  refine PySem.W.cls_val fr I.ok.mod.kin T0.ty T0.rd T0.vi (by decide +kernel) ?_
  show wpAny _ _ (callWith pos (Value.builtin "ValueError.__init__") [] (backTo pos (starEach (e :: es) X.env)) []) _ _ _
  refine PyProof.Rows.callWith_method1 (thn (ha.run pos pins _ σ H _ (I.tok _) h) fun us s1 ⟨vs, H1, I1, r1, a, C, ws, ev, hl, T, ea, q⟩ => ?_) he hpl
  subst ev
  cases r1 with
  | @cons _ u0 _ ur ra rw' =>
    obtain rfl : u0 = Value.ref a := ra
    have hlen : ur.length ≤ sizeLine := by
      rw [← Paired.length rw', sizeLine_eq]
      omega
    exact oinit_ok T I1 ea hlen fun s' J => ⟨.non, H1, J, rfl, q⟩
end
end L2

set_option Elab.async false
set_option linter.all false
set_option maxRecDepth 100000
set_option maxHeartbeats 4000000
/-! ExcQ: isinstance of a caught exception of an own class that holds fields. -/
namespace PySem.W
open PySem PySem.Spec PySem.Calls PyProof.Rows
section
variable {prog : Program} {w : World} {A : Around} {E : Value → Shared → Prop} {s : Shared} {K : Frag} {x D : Addr} {ox : Obj} {od : Obj}
theorem kin_classF {Q : Option Value → Shared → Prop} (C : L2.ExcC K D) (X : K.In s.heap) (I : InstAt s.heap x ox D (some od)) (h : Q (some (.ref D)) { s with toks := s.toks + 1 }) : wpAny (model prog w) A (getAttr? (.ref x) "__class__") Q E s := by
  have hf : findObj K D (some od) "__class__" = some (.bind (.builtin "getset_descriptor.__get__") (.builtin "object.__class__")) := findObj_data (by obtain ⟨cd, hc, _⟩ := any_some C.hd; rw [hc]; rfl) C.ha C.hn C.ht
  obtain ⟨hp, g, d, t, os⟩ := s
  have ty := I.type (M := model prog w)
  have sub : Looks (model prog w) hp (isInstance (.ref x) (.type "BaseException")) true := ty.andThen (looks_subIn X C.hs)
  have no : (Value.builtin "BaseException.__getattribute__" == Value.builtin "object.__getattribute__") = false := by decide +kernel
  unfold getAttr? getAttrBy? getAttrBy
  refine wpAny_bind (wpAny_mkText (wpAny_bind (wpAny_attempt (wpAny_holding (wpAny_bind (ty.at (wpAny_bind ((looks_findIn (M := model prog w) X C.hg).at ?_))))))))
  show wpAny _ _ (if (onTheHeap (Value.ref D) && Value.builtin "BaseException.__getattribute__" == Value.builtin "object.__getattribute__") = true then _ else _) _ _ _
  rw [no, Bool.and_false, if_neg Bool.false_ne_true]
  unfold getAttrByItsOwn hookBefore
  refine wpAny_bind ?_
  rw [if_pos (show onTheHeap (Value.ref D) = true from rfl)]
  refine (looks_findIn (M := model prog w) X C.hk).at (wpAny_bind (wpAny_attempt (wpAny_holding ?_)))
  unfold callGetattribute
  rw [show (false && onTheHeap (Value.builtin "BaseException.__getattribute__")) = false from rfl, if_neg Bool.false_ne_true]
  unfold boundAndCalled
  rw [PySem.F.excAttr_ValueError.ga.bind (.ref x)]
  refine wpAny_bind (wpAny_pure ?_)
  show wpAny _ _ (call (.builtin "BaseException.__getattribute__") [.ref x, .str "__class__" t]) _ _ _
  refine wpAny_call (codeAny_call_builtin PySem.F.excAttr_ValueError.ga.plain PySem.F.entry_bexc_ga ?_)
  refine @check_slot (model prog w) _ _ ⟨hp, g, d, t + 1, os⟩ "BaseException.__getattribute__" "BaseException" "__getattribute__" (.ref x) [.str "__class__" t] [] _ (by decide +kernel) (by decide +kernel) sub (PySem.F.args_bexc_ga (.ref x) (.str "__class__" t)) ?_
  unfold Builtin.«object.__getattribute__»
  refine wpAny_bind (wpAny_of_eq (a := ((Value.ref x : Value), [Value.str "__class__" t])) (by first | rfl | (simp only [slotArgs]; rfl)) ?_)
  refine wpAny_bind (wpAny_pure (wpAny_bind (ty.at (wpAny_bind ((looks_find (M := model prog w) X I hf).at ?_)))))
  show wpAny _ _ (holding [Value.builtin "object.__class__"] (call (.builtin "getset_descriptor.__get__") [.builtin "object.__class__", .ref x, .ref D]) >>= ret) _ _ _
  refine wpAny_bind (wpAny_holding (wpAny_call (class_get (s := ⟨hp, g, d, t + 1, os⟩) (ox := ox) (od := some od) X I C.hm ?_)))
  refine wpAny_pure ?_
  show wpAny _ _ (handedOut (.ref D)) _ _ _
  rw [handedOut_of (v := .ref D) rfl]
  first
    | exact wpAny_pure (wpAny_pure h)
    | exact wpAny_pure h
    | exact wpAny_pure (wpAny_bind (wpAny_pure (wpAny_pure h)))
theorem kitx_excF (C : L2.ExcC K D) : KitX K (.ref x) (.ref D) (fun h => InstAt h x ox D (some od)) :=
  let Z := handS_kitx_exc (x := x) (ox := ox) C.hg C.hk C.hs C.hd C.ha C.hn C.ht C.hm
  { ty := fun _ _ _ I => I.type
    it := fun _ _ X _ => by
      obtain ⟨cdD, hcD, _⟩ := any_some C.hd
      unfold clsIn at hcD
      split at hcD
      · rename_i c' d' cd' sl' ho
        intro A' Q' E' s' k q
        unfold isType loadHead
        exact wpAny_bind (wpAny_loadPart (k _ _ (X _ _ ho)) (wpAny_pure q))
      · cases hcD
    ne := Z.ne
    ca := fun X I k => kin_classF C X I k }
end
end PySem.W
namespace L2
open PySem PySem.Spec PyProof.Rows
/-- isinstance(e, c), e the exception that the suite holds, with fields -/
def rIsF (K : PySem.W.Frag) (D a : Addr) (d : Option Addr) : List V → Hp → VK → Prop := fun xs H Q => ∃ (c : V) (cv : Value) (b : Bool) (dd : Addr) (fs : List (Str × V)), d = some dd ∧ H dd = some (.xd fs) ∧ xs = [.ref a, c] ∧ (∀ u, RelV c u → u = cv) ∧ PySem.W.kitOne K (.ref D) cv = some b ∧ Q (.bl b) H
theorem call_isF {X : Cx} {a D : Addr} {oe : Obj} {d : Option Addr} {pn : List (Addr × Obj)} (C : ExcC X.K D) (hz : Zc (.ref D) d oe) (hf : ∃ vs, oe.data = .fields vs) : CallR (X.suite a ((a, oe) :: pn)) (.builtin "isinstance") (rIsF X.K D a d) := by
  intro pins s σ H xs us Q I r h
  obtain ⟨c, cv, b, dd, fs, rfl, ea, rfl, hcv, e, q⟩ := h
  cases r with
  | cons rx rr =>
    cases rr with
    | cons rt rr =>
      cases rr
      cases rx
      have ec := hcv _ rt
      subst ec
      obtain ⟨hget, _⟩ := I.pin (a, oe) (List.mem_append.mpr (.inl List.mem_cons_self))
      obtain ⟨vs, hv⟩ := hf
      have hx : ObjOk X.prog X.w H s.heap dd (.xd fs) := I.hok dd _ ea
      obtain ⟨mA, hns, hr⟩ := hx
      obtain ⟨od, ho, hl⟩ := lookIn_ns hns
      have J : PySem.W.InstAt s.heap a oe D (some od) := ⟨hget, hz.1, by unfold PySem.W.notCls; rw [hv] <;> rfl, by rw [hz.2]; exact ho⟩
      exact PySem.W.kia_one (PySem.W.kitx_excF C) I.kIn J e (fun z => nomatch z) fun tk => ⟨.bl b, H, I.kept (t' := tk) fun _ _ z => z, rfl, q⟩
end L2

set_option Elab.async false
set_option linter.all false
set_option maxRecDepth 100000
set_option maxHeartbeats 2000000
/-! MirX: data of any kind and exceptions of own classes, in worlds. -/
namespace Mr
open PySem PySem.Spec PyProof.Rows L2
/-! ### any data -/
section
variable {K : PySem.W.Frag} {G G' : Hp}
mutual
theorem dp_up (e : Ext G G') : ∀ (d : PyData) {v : V}, Dp K G v d → Dp K G' v d
  | .none, _, h => by cases h; exact .non
  | .bool b, _, h => by cases h; exact .bl b
  | .int i, _, h => by cases h; exact .int i
  | .str y, _, h => by cases h; exact .str y
  | .list ds, _, h => by
    cases h with
    | lst hs ha => exact .lst (sqL_up e hs) (dps_up e ds ha)
  | .tuple ds, _, h => by
    cases h with
    | tup hs ha => exact .tup (sqT_up e hs) (dps_up e ds ha)
  | .dict _, _, h => by cases h
theorem dps_up (e : Ext G G') : ∀ (ds : List PyData) {vs : List V}, DpAll K G vs ds → DpAll K G' vs ds
  | [], _, h => by cases h; exact .nil
  | d :: ds, _, h => by
    cases h with
    | cons h1 h2 => exact .cons (dp_up e d h1) (dps_up e ds h2)
end
end
def rAny (K : PySem.W.Frag) : R PyData := ⟨fun G v d => Dp K G v d, fun e h => dp_up e _ h⟩
section
variable {K : PySem.W.Frag} {G G' H : Hp} {O : Own} {v w : V} {vs : List V} {d e : PyData} {ds : List PyData} {Q : VK}
theorem al_dps : ∀ {vs : List V} {ds : List PyData}, Al (rAny K) G vs ds → DpAll K G vs ds
  | [], [], _ => .nil
  | _ :: _, _ :: _, h => .cons h.1 (al_dps h.2)
  | [], _ :: _, h => h.elim
  | _ :: _, [], h => h.elim
theorem dps_al : ∀ {vs : List V} {ds : List PyData}, DpAll K G vs ds → Al (rAny K) G vs ds
  | _, [], h => by cases h; exact True.intro
  | _, _ :: _, h => by
    cases h with
    | cons h1 h2 => exact ⟨h1, dps_al h2⟩
theorem any_T (h : (rT K (rAny K)).rel G v ds) : (rAny K).rel G v (.tuple ds) := by
  obtain ⟨p, vs, rfl, hs, ha⟩ := h
  exact .tup hs (al_dps ha)
theorem any_M (h : (rM (rAny K)).rel G v ds) : (rAny K).rel G v (.list ds) := by
  obtain ⟨p, vs, rfl, hs, ha⟩ := h
  exact .lst (.inl (.inl hs)) (al_dps ha)
theorem any_of {α : Type} [DecidableEq α] (d : RD K α) {x : α} (h : d.r.rel G v x) : (rAny K).rel G v (d.enc x) := d.dp h
theorem dp_get : ∀ {vs : List V} {ds : List PyData} {i : Nat} {d : PyData}, DpAll K G vs ds → ds[i]? = some d → ∃ v, vs[i]? = some v ∧ Dp K G v d
  | _, _, i, d, h, e => (dps_al h).get (r := rAny K) e
/-! what a kind of data is -/
theorem ty_A {c : String} (h : Dp K H v d) (hk : kindA d = some c) : TyX K H v (.type c) := by
  cases h with
  | non => cases hk; exact ty_N
  | bl b => cases hk; exact ty_B _
  | int i => cases hk; exact ty_I _
  | str x => cases hk; exact ty_S _
  | lst hs ha => cases hk; exact ty_L (K := K) (r := rAny K) ⟨_, _, rfl, hs, dps_al ha⟩
  | tup hs ha => cases hk; exact ty_sqT hs
theorem isA_kind {c : String} {b : Bool} (hc : c = "tuple" ∨ c = "list" ∨ c = "str" ∨ c = "bool" ∨ c = "int") (h : isA c d = some b) : ∃ k, kindA d = some k ∧ kitB k c = some b := by
  rcases hc with rfl | rfl | rfl | rfl | rfl <;> cases d <;> cases h <;> exact ⟨_, rfl, by decide +kernel⟩
theorem q_isiA {c : String} {b : Bool} (hc : c = "tuple" ∨ c = "list" ∨ c = "str" ∨ c = "bool" ∨ c = "int") (S : Sub G O H) (h : (rAny K).rel G v d) (e : isA c d = some b) (q : Q (.bl b) H) : rIsi K [v, .ty c] H Q := by
  obtain ⟨k, h1, h2⟩ := isA_kind hc e
  exact q_isi (ty_A (dp_up S.ext _ h) h1) h2 q
theorem q_lenA {n : Int} (S : Sub G O H) (h : (rAny K).rel G v d) (e : lenA d = some n) (q : Q (.int n) H) : rLenM K [v] H Q := by
  have h' : Dp K H v d := dp_up S.ext _ h
  cases h' with
  | tup hs ha =>
    cases e
    have := (dps_al ha).len
    refine ⟨_, _, rfl, .inr hs, ?_⟩
    rw [this]; exact q
  | lst hs ha =>
    cases e
    have := (dps_al ha).len
    refine ⟨_, _, rfl, .inl hs, ?_⟩
    rw [this]; exact q
  | _ => cases e
theorem q_ixA {i : Int} (S : Sub G O H) (h : (rAny K).rel G v d) (e' : ixA d i = some e) (q : ∀ w, (rAny K).rel G w e → Q w H) : rIxT K v (.int i) H Q := by
  have h' : Dp K G v d := h
  cases h' with
  | tup hs ha => exact q_ixT (r := rAny K) S ⟨_, _, rfl, hs, dps_al ha⟩ e' q
  | _ => cases e'
theorem shA_ok (h : shA d = some e) : SeqAt.shaped d = true ∧ d = e := shA_some h
theorem q_eqA {b : Bool} (S : Sub G O H) (h1 : (rAny K).rel H v d) (h2 : (rAny K).rel H w e) (e' : eqA d e = some b) (q : Q (.bl b) H) : rEqD K v w H Q := by
  obtain ⟨d', a1, e'⟩ := bindS e'
  obtain ⟨e2, a2, e'⟩ := bindS e'
  obtain ⟨s1, rfl⟩ := shA_ok a1
  obtain ⟨s2, rfl⟩ := shA_ok a2
  cases e'
  exact ⟨_, _, h1, h2, s1, s2, q⟩
theorem q_neA {b : Bool} (S : Sub G O H) (h1 : (rAny K).rel H v d) (h2 : (rAny K).rel H w e) (e' : eqA d e = some b) (q : Q (.bl (!b)) H) : rNeD K v w H Q := by
  obtain ⟨d', a1, e'⟩ := bindS e'
  obtain ⟨e2, a2, e'⟩ := bindS e'
  obtain ⟨s1, rfl⟩ := shA_ok a1
  obtain ⟨s2, rfl⟩ := shA_ok a2
  cases e'
  exact ⟨_, _, h1, h2, s1, s2, q⟩
theorem q_inA {b : Bool} (S : Sub G O H) (h1 : (rAny K).rel H v d) (h2 : (rAny K).rel H w (.list ds)) (e' : inA d ds = some b) (q : Q (.bl b) H) : rInD K v w H Q := by
  obtain ⟨d', a1, e'⟩ := bindS e'
  obtain ⟨e2, a2, e'⟩ := bindS e'
  obtain ⟨s1, rfl⟩ := shA_ok a1
  obtain ⟨s2, rfl⟩ := shA_ok a2
  cases e'
  exact ⟨_, _, h1, h2, s1, s2, q⟩
theorem q_niA {b : Bool} (S : Sub G O H) (h1 : (rAny K).rel H v d) (h2 : (rAny K).rel H w (.list ds)) (e' : inA d ds = some b) (q : Q (.bl (!b)) H) : rNotInD K v w H Q := by
  obtain ⟨d', a1, e'⟩ := bindS e'
  obtain ⟨e2, a2, e'⟩ := bindS e'
  obtain ⟨s1, rfl⟩ := shA_ok a1
  obtain ⟨s2, rfl⟩ := shA_ok a2
  cases e'
  exact ⟨_, _, h1, h2, s1, s2, q⟩
/-- a tuple display of written length -/
theorem q_tupN {α : Type} {r : R α} {xs : List α} (S : Sub G O H) (hl : vs.length ≤ 100000) (h : Al r G vs xs) (q : ∀ u G' H', Ext G G' → Sub G' O H' → (rT K r).rel G' u xs → Q u H') : mkTup vs H Q :=
  ⟨sz hl, fun p hp => q _ _ _ (S.extNew hp _) (S.new hp) ⟨p, vs, rfl, .inl (.inl upd_same), h.up (S.extNew hp _)⟩⟩
end
/-! ### back from any data to a type -/
section
variable {K : PySem.W.Frag} {α β γ δ : Type} {r0 : R α} {r1 : R β} {r2 : R γ} {r3 : R δ} {G : Hp} {v : V} {d : PyData}
def Dec (K : PySem.W.Frag) (r : R α) (f : PyData → Option α) : Prop := ∀ (G : Hp) (v : V) (d : PyData) (x : α), f d = some x → Dp K G v d → r.rel G v x
theorem dec_I : Dec K rInt decI := fun G v d x e h => by
  cases h <;> cases e
  rfl
theorem dec_B : Dec K rBool decB := fun G v d x e h => by
  cases h <;> cases e
  rfl
theorem dec_S : Dec K rStr decS := fun G v d x e h => by
  cases h <;> cases e
  rfl
theorem dec_En {e : α → Str} {tb : List α} : Dec K (rEn e) (decEn e tb) := fun G v d x h hd => by
  cases hd with
  | str y =>
    have h' : tb.find? (fun a => decide (e a = y)) = some x := h
    have := List.find?_some h'
    show V.str y = V.str (e x)
    rw [of_decide_eq_true this]
  | _ => cases h
theorem dps_2 {d0 d1 : PyData} {vs : List V} (h : DpAll K G vs [d0, d1]) : ∃ v0 v1, vs = [v0, v1] ∧ Dp K G v0 d0 ∧ Dp K G v1 d1 := by
  have h := dps_al h
  match vs, h with
  | [v0, v1], h => exact ⟨v0, v1, rfl, h.1, h.2.1⟩
theorem dps_3 {d0 d1 d2 : PyData} {vs : List V} (h : DpAll K G vs [d0, d1, d2]) : ∃ v0 v1 v2, vs = [v0, v1, v2] ∧ Dp K G v0 d0 ∧ Dp K G v1 d1 ∧ Dp K G v2 d2 := by
  have h := dps_al h
  match vs, h with
  | [v0, v1, v2], h => exact ⟨v0, v1, v2, rfl, h.1, h.2.1, h.2.2.1⟩
theorem dp_tup {ds : List PyData} (h : Dp K G v (.tuple ds)) : ∃ a vs, v = .ref a ∧ SqT K G a vs ∧ DpAll K G vs ds := by
  cases h with
  | tup hs ha => exact ⟨_, _, rfl, hs, ha⟩
theorem dec2_some {f0 : PyData → Option α} {f1 : PyData → Option β} {x : α × β} (e : dec2 f0 f1 d = some x) : ∃ a b, d = .tuple [a, b] ∧ f0 a = some x.1 ∧ f1 b = some x.2 := by
  unfold dec2 at e
  split at e
  · obtain ⟨x0, e0, e⟩ := bindS e
    obtain ⟨x1, e1, e⟩ := bindS e
    cases e
    exact ⟨_, _, rfl, e0, e1⟩
  · cases e
theorem dec3_some {f0 : PyData → Option α} {f1 : PyData → Option β} {f2 : PyData → Option γ} {x : α × β × γ} (e : dec3 f0 f1 f2 d = some x) : ∃ a b c, d = .tuple [a, b, c] ∧ f0 a = some x.1 ∧ f1 b = some x.2.1 ∧ f2 c = some x.2.2 := by
  unfold dec3 at e
  split at e
  · obtain ⟨x0, e0, e⟩ := bindS e
    obtain ⟨x1, e1, e⟩ := bindS e
    obtain ⟨x2, e2, e⟩ := bindS e
    cases e
    exact ⟨_, _, _, rfl, e0, e1, e2⟩
  · cases e
theorem dec_2 {f0 : PyData → Option α} {f1 : PyData → Option β} (h0 : Dec K r0 f0) (h1 : Dec K r1 f1) : Dec K (rP2 K r0 r1) (dec2 f0 f1) := fun G v d x e h => by
  obtain ⟨a, b, rfl, e0, e1⟩ := dec2_some e
  obtain ⟨p, vs, rfl, hs, ha⟩ := dp_tup h
  obtain ⟨v0, v1, rfl, a0, a1⟩ := dps_2 ha
  exact ⟨p, _, _, rfl, hs, h0 _ _ _ _ e0 a0, h1 _ _ _ _ e1 a1⟩
theorem dec_3 {f0 : PyData → Option α} {f1 : PyData → Option β} {f2 : PyData → Option γ} (h0 : Dec K r0 f0) (h1 : Dec K r1 f1) (h2 : Dec K r2 f2) : Dec K (rP3 K r0 r1 r2) (dec3 f0 f1 f2) := fun G v d x e h => by
  obtain ⟨a, b, c, rfl, e0, e1, e2⟩ := dec3_some e
  obtain ⟨p, vs, rfl, hs, ha⟩ := dp_tup h
  obtain ⟨v0, v1, v2, rfl, a0, a1, a2⟩ := dps_3 ha
  exact ⟨p, _, _, _, rfl, hs, h0 _ _ _ _ e0 a0, h1 _ _ _ _ e1 a1, h2 _ _ _ _ e2 a2⟩
end
/-! ### exceptions of own classes with an __init__ that keeps one or two values -/
def oexB1 (K : PySem.W.Frag) (C : Addr) : Bool := match K.lookup C with
  | some ⟨.type "type", _, .cls cdat, slts⟩ => (match cdat.mro, slts.toList with
    | .ref C2 :: rest, [_, _, _, _, some (.builtin nw), _] => C2 == C && (nw == "ValueError.__new__" && (!cdat.hasDel && (cdat.hasDict && PySem.HandSPX.refsVE rest)))
    | _, _ => false)
  | _ => false
theorem oexB1_ok {K : PySem.W.Frag} {C : Addr} (h : oexB1 K C = true) : ∃ nm q N bs bm sn sub ab col dd k0 k1 k2 k3 k5, K.lookup C = some (excClassObj nm q C N bs bm true sn sub ab col dd k0 k1 k2 k3 k5 "ValueError.__new__") ∧ PySem.HandSPX.refsVE bm = true := by
  unfold oexB1 at h
  split at h
  · rename_i dd cdat slts ho
    split at h
    · rename_i C2 rest k0 k1 k2 k3 nw k5 hm hs
      simp only [Bool.and_eq_true, beq_iff_eq, Bool.not_eq_true'] at h
      obtain ⟨rfl, rfl, hdel, hdc, hr⟩ := h
      obtain ⟨nm, bs, mro, ns, qn, hd, sn, sub, ab, col, del⟩ := cdat
      dsimp only at hm hdel hdc
      subst hm hdel hdc
      obtain ⟨sl⟩ := slts
      dsimp only at hs
      subst hs
      exact ⟨nm, qn, ns, bs, rest, sn, sub, ab, col, dd, k0, k1, k2, k3, k5, ho, hr⟩
    · cases h
  · cases h
/-- what is asked of the class x -/
structure XcT (K : PySem.W.Frag) (x : Str) : Prop where
  oex : OexC K (He.ga K x)
  xf : XfC K (He.ga K x)
  ex : ExcC K (He.ga K x)
  ini : PySem.W.findIn K (.ref (He.ga K x)) "__init__" = some (some (.ref (He.ma K (He.ga K x) "__init__")))
  tI : PySem.W.typeIn K (.ref (He.ma K (He.ga K x) "__init__")) = some (.type "function")
  isC : PySem.W.isClsIn K (He.ga K x) = true
def xcB (x : Str) : FrT := fun K =>
  oexB1 K (He.ga K x) && (He.eqO (PySem.W.findIn K (.ref (He.ga K x)) "__setattr__") (some (some (.builtin "object.__setattr__"))) && (decide (PySem.W.subIn K (.ref (He.ga K x)) (.type "BaseException") = some true) &&
  (decide (PySem.W.typeIn K (.ref (He.ga K x)) = some (.type "type")) && (PySem.W.keepIn K (.ref (He.ga K x)) && (xfB K (He.ga K x) &&
  (He.eqO (PySem.W.findIn K (.ref (He.ga K x)) "__class__") (some (some (.builtin "object.__class__"))) && (He.eqO (PySem.W.specialIn K (.builtin "object.__class__") "__get__") (some (some (.builtin "getset_descriptor.__get__"))) &&
  (decide (PySem.W.takesIn K (.builtin "object.__class__") = some true) && (decide (PySem.W.mroIn K (He.ga K x) (.type "object") = some true) && (He.eqO (PySem.W.findIn K (.ref (He.ga K x)) "__init__") (some (some (.ref (He.ma K (He.ga K x) "__init__")))) &&
  (decide (PySem.W.typeIn K (.ref (He.ma K (He.ga K x) "__init__")) = some (.type "function")) && PySem.W.isClsIn K (He.ga K x))))))))))))
theorem xcB_ok {x : Str} {K : PySem.W.Frag} (h : xcB x K = true) : XcT K x := by
  obtain ⟨h1, h⟩ := He.ba h
  obtain ⟨h2, h⟩ := He.ba h
  obtain ⟨h3, h⟩ := He.ba h
  obtain ⟨h4, h⟩ := He.ba h
  obtain ⟨h5, h⟩ := He.ba h
  obtain ⟨h6, h⟩ := He.ba h
  obtain ⟨h7, h⟩ := He.ba h
  obtain ⟨h8, h⟩ := He.ba h
  obtain ⟨h9, h⟩ := He.ba h
  obtain ⟨h10, h⟩ := He.ba h
  obtain ⟨h11, h⟩ := He.ba h
  obtain ⟨h12, h13⟩ := He.ba h
  have X := xfB_ok h6
  exact ⟨⟨oexB1_ok h1, He.eqO_ok h2, of_decide_eq_true h3, of_decide_eq_true h4, h5⟩, X, ⟨X.ga, X.gg, of_decide_eq_true h3, X.hdC, He.eqO_ok h7, He.eqO_ok h8, of_decide_eq_true h9, of_decide_eq_true h10⟩, He.eqO_ok h11, of_decide_eq_true h12, h13⟩
/-- the base class, whose __init__ is ValueError's -/
def ibB (x : Str) : FrT := fun K => He.eqO (PySem.W.specialIn K (.ref (He.ga K x)) "__getattribute__") (some (some (.builtin "type.__getattribute__"))) && (decide (PySem.W.typeIn K (.ref (He.ga K x)) = some (.type "type")) &&
  (PySem.W.readsIn K (He.ga K x) (.type "type") && (match PySem.W.findCls K (.ref (He.ga K x)) (.type "type") "__init__" with
  | some (.val (.builtin z)) => z == "ValueError.__init__"
  | _ => false)))
theorem ibB_ok {x : Str} {K : PySem.W.Frag} (h : ibB x K = true) : InitC K (He.ga K x) := by
  obtain ⟨h1, h⟩ := He.ba h
  obtain ⟨h2, h⟩ := He.ba h
  obtain ⟨h3, h4⟩ := He.ba h
  refine ⟨He.eqO_ok h1, of_decide_eq_true h2, h3, ?_⟩
  split at h4
  · rename_i z hz
    rw [hz, beq_iff_eq.mp h4]
  · cases h4
theorem fmtB_ok {d : PyData} (h : fmtB d = true) : FmtOk d := by
  unfold fmtB at h
  obtain ⟨h1, h⟩ := He.ba h
  obtain ⟨h2, h⟩ := He.ba h
  obtain ⟨h3, h4⟩ := He.ba h
  refine ⟨h1, of_decide_eq_true h2, of_decide_eq_true h3, fun y e => ?_⟩
  subst e
  exact of_decide_eq_true h4
/-- the __init__ with one value kept as f -/
def spX1 (K : PySem.W.Frag) (C : Addr) (f : Str) : Sp := fun vs H Q _ => ∃ (a : Addr) (v : V) (d : PyData), vs = [.ref a, v] ∧ H a = some (exo a C none) ∧ Dp K H v d ∧ FmtOk d ∧
  ∀ dx, H dx = none → dx ≠ a → Q .non (upd (upd H dx (exd dx [(f, v)])) a (exo a C (some dx)))
def mkO (C : Addr) (sp : Sp) (vs : List V) (H1 : Hp) (Q : XK) : Prop := vs.length ≤ 1000 ∧ ∀ a, H1 a = none → sp (.ref a :: (vs ++ [])) (upd H1 a (exo a C none))
  (fun v H2 => v = .non ∧ ∃ (d : Addr) (fs : List (Str × V)), H2 a = some (exo a C (some d)) ∧ H2 d = some (exd d fs) ∧ H1 d = none ∧ Q (.ref C) (some d) (upd (L2.del H2 a) d (.xd fs))) (fun _ _ _ => False)
theorem gRaise {C : Addr} {sp : Sp} {ta : TA} {σ : L2.St} {H : Hp} {W : XK} (h : ta σ H fun vs H1 => mkO C sp vs H1 W) : tMkO C sp [] ta σ H W := h
theorem heap_exc {H : Hp} {a dx : Addr} {o1 o2 o3 o4 : HO} (ha : H a = none) (hne : dx ≠ a) : upd (L2.del (upd (upd (upd H a o1) dx o2) a o3) a) dx o4 = upd H dx o4 := by
  funext b
  by_cases h1 : b = dx
  · subst h1; rw [upd_same, upd_same]
  · rw [upd_ne h1, upd_ne h1]
    by_cases h2 : b = a
    · subst h2; rw [del_same, ha]
    · rw [del_ne h2, upd_ne h2, upd_ne h1, upd_ne h2]
theorem q_mk1 {K : PySem.W.Frag} {G H : Hp} {O : Own} {C : Addr} {f : Str} {v : V} {d : PyData} {Q : XK} (S : Sub G O H) (h : (rAny K).rel G v d) (hf : fmtB d = true)
    (q : ∀ dd G' H', Ext G G' → Sub G' O H' → G' dd = some (.xd [(f, v)]) → Q (.ref C) (some dd) H') : mkO C (spX1 K C f) [v] H Q := by
  refine ⟨by simp, fun a ha => ⟨a, v, d, rfl, upd_same, dp_up (S.ext.trans (fun b o e => by rw [upd_ne (ne_of_none e ha)]; exact e)) _ h, fmtB_ok hf, fun dx hdx hne => ?_⟩⟩
  have hdx' : H dx = none := by rw [upd_ne hne] at hdx; exact hdx
  refine ⟨rfl, dx, [(f, v)], upd_same, by rw [upd_ne hne, upd_same], hdx', ?_⟩
  rw [heap_exc ha hne]
  exact q dx _ _ (S.extNew hdx' _) (S.new hdx') upd_same
theorem gJsC {t : TE} {ts : List TE} {acc : Str} {σ : L2.St} {H : Hp} {QS : Str → Hp → Prop} (h : t σ H fun x H1 => ∃ y : Str, x = .str y ∧ (acc ++ y).length ≤ sizeLine ∧ tJs ts (acc ++ y) σ H1 QS) : tJs (t :: ts) acc σ H QS := h
theorem gJsN {acc : Str} {σ : L2.St} {H : Hp} {QS : Str → Hp → Prop} (h : QS acc H) : tJs [] acc σ H QS := h
theorem gVeI {K : PySem.W.Frag} {ta : TA} {σ : L2.St} {H : Hp} {Q : VK} (h : ta σ H fun vs H1 => ∃ (a C : Addr) (ws : List V), vs = .ref a :: ws ∧ ws.length ≤ 1000 ∧ OexC K C ∧ H1 a = some (exo a C none) ∧ Q .non H1) : tVeI K ta σ H Q := h
theorem gFmtD {K : PySem.W.Frag} {te : TE} {σ : L2.St} {H : Hp} {Q : VK} (h : te σ H fun x H1 => ∃ d, Dp K H1 x d ∧ FmtOk d ∧ ∀ m : Str, m.length ≤ 1000000 → Q (.str m) H1) : tFmtD K te σ H Q := h
theorem gOst {K : PySem.W.Frag} {f : Str} {to te : TE} {D : Ends} {σ : L2.St} {H : Hp} (h : te σ H fun y H1 => to σ H1 fun x H2 => ∃ a C : Addr, x = .ref a ∧ OexC K C ∧ PySem.W.findIn K (.ref C) f = some none ∧
    ((H2 a = some (exo a C none) ∧ ∀ dx, H2 dx = none → dx ≠ a → D.nx σ (upd (upd H2 dx (exd dx [(f, y)])) a (exo a C (some dx)))) ∨
      ∃ (dx : Addr) (fs : List (Str × V)), H2 a = some (exo a C (some dx)) ∧ H2 dx = some (exd dx fs) ∧ fs.length ≤ 900 ∧ D.nx σ (upd H2 dx (exd dx ((f, y) :: fs))))) : tOst K f to te D σ H := h
/-- the texts of an f-string stay short -/
theorem js_len {a b : Str} {n m k : Nat} (h1 : a.length ≤ n) (h2 : b.length ≤ m) (h : n + m ≤ k) (hk : k ≤ 10000000) : (a ++ b).length ≤ k ∧ (a ++ b).length ≤ sizeLine := by
  have h3 : (10000000 : Nat) ≤ sizeLine := by decide
  rw [strLen_append]
  omega
/-- what is raised passes the def's own way out -/
theorem passE {P : Program} {w : World} {K : PySem.W.Frag} {mg : Str → Option Value} {base : Heap} {N : List Str} {qual : Str} {scope : Scope} {f : Addr} {cd : Value} {A : Around} {outer : List Env} {s : Shared} {H : Hp} {E : XK} :
    Passes (L2.CX P w) (cxOf (L2.CX P w) P w K mg base N qual scope f cd A outer s H E) E := passes_call (takes_of rfl rfl rfl rfl) fun _ _ _ _ h => h
end Mr

set_option Elab.async false
set_option linter.all false
set_option maxRecDepth 100000
/-! KwP: calls with some of the keyword-only parameters written, no other defaults. -/
namespace L2
open PySem PySem.Spec PyProof.Rows
section
variable {K : PySem.W.Frag} {x qual : Str} {params : Arguments} {body : List Stmt} {scope : Scope} {kws : List (Str × V)} {f : Addr} {fd : FuncData} {ps : List Str}
theorem kbn_mix (F : FunD K x qual params body scope [] kws f fd) (n : Nat) (ks : List Str) (ms : List (Str × V)) (hk : kws ≠ []) (hms : ∀ q ∈ ms, q ∈ kws) (pre : Bool)
    (h : ∀ (D : Addr) (doc pm : Value) (an : Option Addr) (cdv ct : Value) (us mv ws : List Value), us.length = n → mv.length = ms.length → ws.length = ks.length →
      KwChain D ((ms.map (·.1)).zip mv) (bindArgs (PySem.W.fnOf x qual params body scope .none (.ref D) doc pm an cdv ct) ⟨us, ks.zip ws⟩) (ps.zip (us ++ (cond pre (mv ++ ws) (ws ++ mv))))) :
    ∃ mv : List Value, KBn K fd ps n ks (fun us ws => us ++ (cond pre (mv ++ ws) (ws ++ mv))) (fun vs zs => vs ++ (cond pre (ms.map (·.2) ++ zs) (zs ++ ms.map (·.2)))) := by
  obtain ⟨oc, od, dV, kV, doc, pm, an, cdv, ct, osl, rfl, lk, hcd, hD, hK⟩ := F.ex
  rcases hD with ⟨_, rfl⟩ | ⟨e, _⟩
  · rcases hK with e | ⟨D, rfl, hq⟩
    · exact absurd e hk
    · obtain ⟨mv, hl, rk, hks⟩ := kwd_vals (ms := ms) fun q hm => hq q (hms q hm)
      refine ⟨mv, ⟨fun s us ws X l1 l2 => BindsTo.of_looks fun M => KwChain.looks X hks (h D doc pm an cdv ct us mv ws l1 hl l2), fun r1 r2 => r1.append ?_⟩⟩
      cases pre with
      | true => exact rk.append r2
      | false => exact r2.append rk
  · exact absurd rfl e
theorem kbn_full (F : FunD K x qual params body scope [] kws f fd) (n : Nat) (ks : List Str)
    (h : ∀ (kV doc pm : Value) (an : Option Addr) (cdv ct : Value) (us ws : List Value), us.length = n → ws.length = ks.length → bindArgs (PySem.W.fnOf x qual params body scope .none kV doc pm an cdv ct) ⟨us, ks.zip ws⟩ = pure (ps.zip (us ++ ws))) :
    KBn K fd ps n ks (fun us ws => us ++ ws) (fun vs zs => vs ++ zs) := by
  obtain ⟨oc, od, dV, kV, doc, pm, an, cdv, ct, osl, rfl, lk, hcd, hD, hK⟩ := F.ex
  rcases hD with ⟨_, rfl⟩ | ⟨e, _⟩
  · exact ⟨fun s us ws X l1 l2 => .of_eq (h kV doc pm an cdv ct us ws l1 l2), fun r1 r2 => r1.append r2⟩
  · exact absurd rfl e
end
end L2
namespace Mr
open PySem PySem.Spec PyProof.Rows L2
theorem gCallN {n m : Nat} {sp : Sp} {gV : List V → List V → List V} {E : XK} {t tk : TA} {σ : L2.St} {H : Hp} {Q : VK} (h : t σ H fun vs H1 => tk σ H1 fun zs H2 => vs.length = n ∧ zs.length = m ∧ sp (gV vs zs) H2 Q E) : tCallN n m sp gV E t tk σ H Q := h
end Mr

set_option linter.all false
/-! SortP: sorted, the plain part. -/
namespace Mr
open PySem
def sortM {α : Type} (k : α → PyData) (xs : List α) : Option (List α) := if xs.length ≤ 100000 then some (xs.mergeSort (PySem.W.dataLe false k)) else none
theorem sortM_some {α : Type} {k : α → PyData} {xs ys : List α} (h : sortM k xs = some ys) : xs.length ≤ 100000 ∧ xs.mergeSort (PySem.W.dataLe false k) = ys := by
  unfold sortM at h
  split at h
  · rename_i c; exact ⟨c, Option.some.inj h⟩
  · cases h
end Mr

set_option Elab.async false
set_option linter.all false
set_option maxRecDepth 100000
set_option maxHeartbeats 2000000
/-! SortD: sorted(list of data that are alike); list * int. -/
namespace Mr
open PySem PySem.Spec PyProof.Rows L2
def rSortD (K : PySem.W.Frag) : List V → Hp → VK → Prop := fun vs H Q => ∃ (α : Type) (r : R α) (G : Hp) (k : α → PyData) (a : Addr) (xs : List V) (bs : List α), vs = [V.ref a] ∧ SqL K H a xs ∧ Al r G xs bs ∧ (∀ v b, r.rel G v b → Dp K H v (k b)) ∧
  PySem.W.AllAlike (bs.map k) ∧ PySem.W.Sortable (bs.map k) ∧ bs.length ≤ sizeLine ∧ (∀ b, (k b).depth ≤ 60) ∧
  ∀ ys p, Al r G ys (bs.mergeSort (PySem.W.dataLe false k)) → H p = none → Q (.ref p) (upd H p (.lst ys))
theorem each_al {α : Type} {r : R α} {G : Hp} : ∀ {xs : List V} {us : List Value} {bs : List α}, Vals xs us → Al r G xs bs → PySem.W.EachIs (fun u b => ∃ v, RelV v u ∧ r.rel G v b) us bs
  | _, _, [], .nil, _ => .nil
  | _, _, _ :: _, .cons h1 h2, h => .cons ⟨_, h1, h.1⟩ (each_al h2 h.2)
  | _, _, _ :: _, .nil, h => h.elim
  | _, _, [], .cons _ _, h => h.elim
theorem al_each {α : Type} {r : R α} {G : Hp} : ∀ {us : List Value} {bs : List α}, PySem.W.EachIs (fun u b => ∃ v, RelV v u ∧ r.rel G v b) us bs → ∃ xs : List V, Vals xs us ∧ Al r G xs bs
  | _, _, .nil => ⟨[], .nil, True.intro⟩
  | _, _, .cons ⟨v, h1, h2⟩ t => by
    obtain ⟨xs, h3, h4⟩ := al_each t
    exact ⟨v :: xs, .cons h1 h3, h2, h4⟩
theorem call_sortD {X : Cx} {k0 : Nat} (hr : Room k0 X.A) : CallR X (.builtin "sorted") (rSortD X.K) := by
  intro pins s σ H vs us Q I r h
  obtain ⟨α, rr, G, k, a, xs, bs, rfl, hs, ha, hd, hal, hso, hL, hdep, q⟩ := h
  obtain ⟨its, rv, hl, hz⟩ := I.list hs
  obtain ⟨u, rfl, ru⟩ := vals1 r
  obtain rfl : u = Value.ref a := ru
  have e1 := each_al rv ha
  have hu := hr.units
  refine PySem.W.sorted_data (enc := k) hl.isList e1 (e1.mono fun u b ⟨v, h1, h2⟩ => Dp.reads I (k b) v u (hd v b h2) h1) hal hso hL (fun b _ => ?_) fun out hlen ho => ?_
  · have := hdep b
    omega
  · obtain ⟨ys, h3, h4⟩ := al_each ho
    have hp := I.hok.fresh (Nat.le_succ s.heap.objs.size)
    refine ⟨.ref (s.heap.objs.size + 1), upd H (s.heap.objs.size + 1) (.lst ys), I.laid (t' := s.toks) (fun b o e => sortedAll_old e) (Nat.le_succ _) ?_, rfl, q ys _ h4 hp⟩
    obtain ⟨n, hn⟩ := sortedAll_at s.heap its out.toArray
    refine ⟨?_, out, n, h3, hn⟩
    rw [h3.length, hlen]
    exact hL
section
variable {α : Type} [DecidableEq α] {r : R α} {G G' H : Hp} {O : Own} {K : PySem.W.Frag} {v w : V} {vs : List V} {x : α} {xs ys : List α} {a : Addr} {Q : VK}
theorem dp_up1 (d : RD K α) (S : Sub G O H) {v : V} {b : α} (h : d.r.rel G v b) : Dp K H v (d.enc b) := d.dp (R.up S.ext h)
theorem q_sortL (d : RD K α) (k : α → PyData) (hk : d.enc = k) (hd : d.dep ≤ 60) (S : Sub G O H) (h : (rL K d.r).rel G v xs) (e : sortM k xs = some ys) (hal : ∀ b b', PySem.W.alike (d.enc b) (d.enc b') = true) (hso : PySem.W.Sortable (xs.map d.enc))
    (q : ∀ u G' H', Ext G G' → Sub G' O H' → (rM d.r).rel G' u ys → Q u H') : rSortD K [v] H Q := by
  obtain ⟨hz, rfl⟩ := sortM_some e
  subst hk
  obtain ⟨p, vs, rfl, hs, ha⟩ := h
  exact ⟨α, d.r, G, d.enc, p, vs, xs, rfl, sqL_up S.ext hs, ha, fun v b h => dp_up1 d S h, PySem.W.AllAlike.of hal, hso, sz hz, fun b => Nat.le_trans (d.dpt b) hd, fun ys t hy ht => q _ _ _ (S.extNew ht _) (S.new ht) ⟨t, ys, rfl, upd_same, hy.up (S.extNew ht _)⟩⟩
theorem q_sortO (d : RD K α) (k : α → PyData) (hk : d.enc = k) (hd : d.dep ≤ 60) (S : Sub G ((a, .lst vs) :: O) H) (h : Al d.r G vs xs) (e : sortM k xs = some ys) (hal : ∀ b b', PySem.W.alike (d.enc b) (d.enc b') = true) (hso : PySem.W.Sortable (xs.map d.enc))
    (q : ∀ u G' H', Ext G G' → Sub G' ((a, .lst vs) :: O) H' → (rM d.r).rel G' u ys → Q u H') : rSortD K [V.ref a] H Q := by
  obtain ⟨hz, rfl⟩ := sortM_some e
  subst hk
  exact ⟨α, d.r, G, d.enc, a, vs, xs, rfl, .inl (.inl S.head), h, fun v b h => dp_up1 d S h, PySem.W.AllAlike.of hal, hso, sz hz, fun b => Nat.le_trans (d.dpt b) hd, fun ys t hy ht => q _ _ _ (S.extNew ht _) (S.new ht) ⟨t, ys, rfl, upd_same, hy.up (S.extNew ht _)⟩⟩
theorem q_sortOw (d : RD K α) (k : α → PyData) (hk : d.enc = k) (hd : d.dep ≤ 60) (S : Sub G ((a, .lst vs) :: O) H) (h : Al d.r G vs xs) (e : sortM k xs = some ys) (hal : ∀ b b', PySem.W.alike (d.enc b) (d.enc b') = true) (hso : PySem.W.Sortable (xs.map d.enc))
    (q : ∀ p ws H', Sub G ((p, .lst ws) :: (a, .lst vs) :: O) H' → Al d.r G ws ys → Q (.ref p) H') : rSortD K [V.ref a] H Q := by
  obtain ⟨hz, rfl⟩ := sortM_some e
  subst hk
  exact ⟨α, d.r, G, d.enc, a, vs, xs, rfl, .inl (.inl S.head), h, fun v b h => dp_up1 d S h, PySem.W.AllAlike.of hal, hso, sz hz, fun b => Nat.le_trans (d.dpt b) hd, fun ys t hy ht => q t ys _ (S.newOwn ht) hy⟩
end
section
variable {α : Type} [DecidableEq α] {G H : Hp} {O : Own} {K : PySem.W.Frag} {v w : V} {x : α} {xs : List α} {Q : VK}
theorem q_inDB (d : RD K α) (hd : d.dep + 1 ≤ 64) (h1 : d.r.rel H v x) (h2 : (rM d.r).rel H w xs) (o1 : d.ok x = true) (o2 : xs.all d.ok = true) (q : Q (.bl (memB x xs)) H) : rInD K v w H Q := q_inD d hd h1 h2 o1 o2 q
theorem q_niDB (d : RD K α) (hd : d.dep + 1 ≤ 64) (h1 : d.r.rel H v x) (h2 : (rM d.r).rel H w xs) (o1 : d.ok x = true) (o2 : xs.all d.ok = true) (q : Q (.bl (!memB x xs)) H) : rNotInD K v w H Q := q_niD d hd h1 h2 o1 o2 q
end
/-! ### list * int -/
section
variable {α : Type} {r : R α} {G G' H : Hp} {O : Own} {K : PySem.W.Frag} {v w : V} {vs : List V} {xs ys : List α} {Q : VK}
theorem Al.repl (h : Al r G vs xs) : ∀ k : Nat, Al r G (List.replicate k vs).flatten (List.replicate k xs).flatten
  | 0 => True.intro
  | k + 1 => by
    rw [List.replicate_succ, List.replicate_succ, List.flatten_cons, List.flatten_cons]
    exact h.app (Al.repl h k)
theorem q_rep {k : Int} (S : Sub G O H) (h1 : LsAt r G H v xs) (e : repM xs k = some ys) (q : ∀ u G' H', Ext G G' → Sub G' O H' → (rM r).rel G' u ys → Q u H') : rRep v (.int k) H Q := by
  obtain ⟨p, vs, rfl, h3, ha⟩ := h1
  obtain ⟨⟨c1, c2, c3⟩, rfl⟩ := repM_some e
  refine ⟨p, k, vs, rfl, rfl, h3, c1, c2, sz (by rw [ha.len]; exact c3), fun t ht => q _ _ _ (S.extNew ht _) (S.new ht) ⟨t, _, rfl, upd_same, ?_⟩⟩
  exact (ha.repl k.toNat).up (S.extNew ht _)
end
end Mr

set_option Elab.async false
set_option linter.all false
set_option maxRecDepth 100000
set_option maxHeartbeats 1000000
/-! OlW: None, or a list that is owned. -/
namespace Mr
open PySem PySem.Spec PyProof.Rows L2
variable {K : PySem.W.Frag} {α : Type} {r : R α} {G G' H : Hp} {B O : Own} {v : V} {Q : VK}
def OLR (r : R α) (G : Hp) (B : Own) (v : V) : Option (List α) → Prop
  | none => v = .non ∧ B = []
  | some xs => ∃ l w, v = .ref l ∧ B = [(l, .lst w)] ∧ Al r G w xs
theorem OLR.up {o : Option (List α)} (e : Ext G G') (h : OLR r G B v o) : OLR r G' B v o := by
  cases o with
  | none => exact h
  | some xs =>
    obtain ⟨l, w, h1, h2, h3⟩ := h
    exact ⟨l, w, h1, h2, h3.up e⟩
theorem OLR.isNone {o : Option (List α)} (h : OLR r G B v o) : decide (v = .non) = o.isNone := by
  cases o with
  | none => rw [h.1]; rfl
  | some xs =>
    obtain ⟨l, w, rfl, _⟩ := h
    rfl
theorem q_olNon {o : Option (List α)} (h : OLR r G B v o) (q : Q (.bl o.isNone) H) : rIsNon v .non H Q := ⟨rfl, by rw [h.isNone]; exact q⟩
theorem q_olNotNon {o : Option (List α)} (h : OLR r G B v o) (q : Q (.bl (!o.isNone)) H) : rIsNotNon v .non H Q := ⟨rfl, by rw [h.isNone]; exact q⟩
/-- the bundle as an owned list -/
theorem OLR.get {o : Option (List α)} {xs : List α} (h : OLR r G B v o) (e : o = some xs) : ∃ l w, v = .ref l ∧ B = [(l, .lst w)] ∧ Al r G w xs := by
  subst e; exact h
end Mr

set_option Elab.async false
set_option linter.all false
set_option maxRecDepth 100000
set_option maxHeartbeats 1000000
/-! TupIn: x in a tuple of data; xs[::step] with a step of 1 or -1. -/
namespace Mr
open PySem PySem.Spec PyProof.Rows L2
section
variable {X : Cx}
def rInDT (K : PySem.W.Frag) : R2 := fun x y H Q => ∃ d ds, Dp K H x d ∧ Dp K H y (.tuple ds) ∧ SeqAt.shaped d = true ∧ SeqAt.shaped (.tuple ds) = true ∧ Q (.bl (ds.any fun z => PyData.eqv z d)) H
theorem op_inDT (hu : X.A.units + 65 < cLine) : OpR X (compareOp .In) (rInDT X.K) := by
  intro pins s σ H x y v u Q I rx ry h
  obtain ⟨d, ds, hd, he, sd, se, q⟩ := h
  obtain ⟨as, r1⟩ := Dp.reads I d x v hd rx
  obtain ⟨bs, r2⟩ := Dp.reads I (.tuple ds) y u he ry
  exact SeqAt.in_tuple_reads r2 r1 (SeqAt.canLay_of_shaped se) (SeqAt.canLay_of_shaped sd) (room_in_shaped sd hu) ⟨.bl _, H, I, rfl, q⟩
theorem op_inDTK {K : PySem.W.Frag} (h : X.K = K) (hu : X.A.units + 65 < cLine) : OpR X (compareOp .In) (rInDT K) := h ▸ op_inDT hu
def tStpL (K : PySem.W.Frag) (te : TE) (tp : TO) : TE := fun σ H Q => te σ H fun x H1 => tp σ H1 fun o H2 => ∃ a xs, x = .ref a ∧ SqL K H2 a xs ∧ ((o = some 1 ∧ ∀ p, H2 p = none → Q (.ref p) (upd H2 p (.lst xs))) ∨ (o = some (-1) ∧ ∀ p, H2 p = none → Q (.ref p) (upd H2 p (.lst xs.reverse))))
theorem pe_stpL {e st : Expr} {te : TE} {tp : TO} {p3 pos : Pos} (he : PE X e te) (hst : PO X (some st) tp) : PE X (.Subscript e (.Slice none none (some st) p3) pos) (tStpL X.K te tp) := by
  refine ⟨fun pins s σ H Q I h => ?_⟩
  refine Subscript_ (thn (he.run pins s σ H _ I h) fun v s1 ⟨x, H1, I1, r1, q1⟩ => ?_)
  refine wpAny_Slice (thn (po_none.run pins s1 σ H1 (fun o H2 => o = none ∧ H2 = H1) I1 ⟨rfl, rfl⟩) fun vl s2 ⟨l, H2, I2, pl, el, e2⟩ => ?_)
  subst el e2
  refine thn (po_none.run pins s2 σ H2 (fun o H3 => o = none ∧ H3 = H2) I2 ⟨rfl, rfl⟩) fun vu s3 ⟨u, H3, I3, pu, eu, e3⟩ => ?_
  subst eu e3
  refine thn (hst.run pins s3 σ H3 _ I3 q1) fun vs s4 ⟨o, H4, I4, ps, a, xs, ex, hx, q⟩ => ?_
  subst ex
  cases r1
  have I5 : Inv X pins σ H4 { s4 with heap := s4.heap.push { cls := .type "slice", data := .fields #[vl, vu, vs] } } := I4.kept (t' := s4.toks) fun b ob q => Heap.get?_push_of_some _ q
  obtain ⟨its, r, ht, hz⟩ := I5.list hx
  have hlen := r.length
  show wpAny (model X.prog X.w) X.A (subscriptTail e (.Slice none none (some st) p3) (.ref a) (.ref s4.heap.objs.size)) (EP X pins σ Q) X.xe { s4 with heap := s4.heap.push { cls := .type "slice", data := .fields #[vl, vu, vs] } }
  refine tail_any (ops := [.ref a, .ref s4.heap.objs.size]) ht.isList.typeIs (PySem.slot_list_getitem.lookup) ?_ (by with_unfolding_all rfl)
  rcases q with ⟨eo, q⟩ | ⟨eo, q⟩ <;> subst eo
  · refine wpAny_getItem_list_slice ht.isList (Heap.IsSliceOf.new _ vl vu vs) pl pu ps (by decide) ?_ (by rw [List.size_toArray]; omega)
    rw [show slicePick its.toArray none none (some 1) = slicePick its.toArray none none none from rfl, slicePick_cut, ← hlen]
    have e1 : HT.sIx xs.length 0 none = 0 := rfl
    have e2 : HT.sIx xs.length xs.length none = xs.length := rfl
    rw [e1, e2, List.drop_zero, Nat.sub_zero, hlen, List.take_length]
    refine ⟨.ref _, _, I5.laid (t' := s4.toks) (o := .lst xs) (fun b ob q => Heap.get?_push_of_some _ q) (Nat.le_refl _) ?_, rfl, q _ (I5.hok.fresh (Nat.le_refl _))⟩
    exact ⟨hz, _, 0, r, Heap.get?_push_size _ rfl⟩
  · refine wpAny_getItem_list_slice ht.isList (Heap.IsSliceOf.new _ vl vu vs) pl pu ps (by decide) ?_ (by rw [List.size_toArray]; omega)
    rw [PySem.W.krv_pick]
    refine ⟨.ref _, _, I5.laid (t' := s4.toks) (o := .lst xs.reverse) (fun b ob q => Heap.get?_push_of_some _ q) (Nat.le_refl _) ?_, rfl, q _ (I5.hok.fresh (Nat.le_refl _))⟩
    exact ⟨by rw [List.length_reverse]; exact hz, _, 0, r.reverse, Heap.get?_push_size _ rfl⟩
end
section
variable {α : Type} [DecidableEq α] {K : PySem.W.Frag} {G H : Hp} {v w : V} {x : α} {xs : List α} {Q : VK}
theorem q_inDT (d : RD K α) (hd : d.dep + 1 ≤ 64) (h1 : d.r.rel H v x) (h2 : (rT K d.r).rel H w xs) (o1 : d.ok x = true) (o2 : xs.all d.ok = true) (q : Q (.bl (memB x xs)) H) : rInDT K v w H Q :=
  ⟨d.enc x, xs.map d.enc, d.dp h1, (dT d).dp h2, d.shaped (by omega) o1, (dT d).shaped hd o2, by rw [any_mem]; exact q⟩
end
def mkStp (K : PySem.W.Frag) (x : V) (o : Option Int) (H2 : Hp) (Q : VK) : Prop := ∃ a xs, x = .ref a ∧ SqL K H2 a xs ∧ ((o = some 1 ∧ ∀ p, H2 p = none → Q (.ref p) (upd H2 p (.lst xs))) ∨ (o = some (-1) ∧ ∀ p, H2 p = none → Q (.ref p) (upd H2 p (.lst xs.reverse))))
section
variable {α : Type} {r : R α} {K : PySem.W.Frag} {G H : Hp} {O : Own} {v w : V} {vs : List V} {xs ys : List α} {a : Addr} {Q : VK} {σ : L2.St}
theorem gStpL {te : TE} {tp : TO} (h : te σ H fun x H1 => tp σ H1 fun o H2 => mkStp K x o H2 Q) : tStpL K te tp σ H Q := h
theorem q_stpO {i : Int} (S : Sub G ((a, .lst vs) :: O) H) (h : Al r G vs xs) (e : stpM xs i = some ys) (q : ∀ w G' H', Ext G G' → Sub G' ((a, .lst vs) :: O) H' → (rM r).rel G' w ys → Q w H') : mkStp K (.ref a) (some i) H Q := by
  refine ⟨a, vs, rfl, .inl (.inl S.head), ?_⟩
  unfold stpM at e
  by_cases c : i = 1
  · rw [if_pos c] at e
    cases e
    exact .inl ⟨congrArg some c, fun t ht => q _ _ _ (S.extNew ht _) (S.new ht) ⟨t, _, rfl, upd_same, h.up (S.extNew ht _)⟩⟩
  · rw [if_neg c] at e
    by_cases c2 : i = -1
    · rw [if_pos c2] at e
      cases e
      exact .inr ⟨congrArg some c2, fun t ht => q _ _ _ (S.extNew ht _) (S.new ht) ⟨t, _, rfl, upd_same, (h.up (S.extNew ht _)).rev⟩⟩
    · rw [if_neg c2] at e
      cases e
/-- a, b = a list of two -/
theorem q_gl2 {p : α × α} {i0 i1 : Nat} {QS : L2.St → Hp → Prop} (S : Sub G O H) (h : (rL K r).rel G v xs) (e : two2M xs = some p) (q : ∀ v0 v1, r.rel G v0 p.1 → r.rel G v1 p.2 → QS ((σ.set i0 (some v0)).set i1 (some v1)) H) : L2.gLst K 2 (gCons (gName i0) (gCons (gName i1) gNil)) v σ H QS := by
  obtain ⟨a, vs, rfl, hs, ha⟩ := h
  have := two2M_some e
  subst this
  match vs, ha with
  | [v0, v1], ha => exact ⟨a, _, rfl, sqL_up S.ext hs, rfl, _, _, rfl, _, _, rfl, rfl, q v0 v1 ha.1 ha.2.1⟩
/-- an append to an owned list that is not looked at any more -/
theorem q_appU {w : V} {u : Unit} (S : Sub G ((a, .lst vs) :: O) H) (h : Al r G vs xs) (e : appU xs = some u) (q : ∀ H', Sub G O H' → Q .non H') : rAppend (.ref a) [w] H Q :=
  ⟨a, vs, w, rfl, rfl, S.head, szl (by rw [h.len]; exact appU_some e), q _ S.wr.tail⟩
/-- a list + a list, owned -/
theorem q_catw {w : V} {zs : List α} (S : Sub G O H) (h1 : LsAt r G H v xs) (h2 : LsAt r G H w ys) (e : catM xs ys = some zs) (q : ∀ p w H', Sub G ((p, .lst w) :: O) H' → Al r G w zs → Q (.ref p) H') : rCat v w H Q := by
  obtain ⟨p, vs, rfl, h3, ha⟩ := h1
  obtain ⟨p2, ws, rfl, h4, hb⟩ := h2
  obtain ⟨c, rfl⟩ := catM_some e
  exact ⟨p, p2, vs, ws, rfl, rfl, h3, h4, sz (by rw [ha.len, hb.len]; exact c), fun t ht => q t _ _ (S.newOwn ht) (ha.app hb)⟩
end
end Mr

set_option Elab.async false
set_option linter.all false
set_option maxRecDepth 100000
set_option maxHeartbeats 2000000
/-! LamW: lambdas handed to a def, in worlds: the tables of code objects are owned. -/
namespace Mr
open PySem PySem.Spec PyProof.Rows L2 LamX
/-! ### tables in worlds -/
def TbR (T : List (Addr × Str)) (B : Own) (G : Hp) : Prop := B.map (·.1) = T.map (·.1) ∧ ∀ p ∈ T, ∃ ps : Array Value, (p.1, HO.tbl ps) ∈ B ∧ TriplesOk ps.toList ∧
  ∀ (pos : Pos) (cv : Value), codeAmong pos ps.toList = some cv → ∃ c, cv = .ref c ∧ G c = some (CodeO c p.2)
/-- neither tables nor code objects -/
def NoC (O : Own) : Prop := ∀ p ∈ O, (∀ q, p.2 ≠ CodeO p.1 q) ∧ ∀ ps, p.2 ≠ .tbl ps
theorem NoC.nil : NoC [] := fun _ h => nomatch h
theorem NoC.lst {O : Own} {a : Addr} {w : List V} (h : NoC O) : NoC ((a, .lst w) :: O) := fun p hp => by
  rcases List.mem_cons.mp hp with e | hp
  · subst e
    exact ⟨fun q z => (by unfold CodeO at z; cases z), fun ps z => (by cases z)⟩
  · exact h p hp
theorem NoC.app {A B : Own} (h1 : NoC A) (h2 : NoC B) : NoC (A ++ B) := fun p hp => (List.mem_append.mp hp).elim (h1 p) (h2 p)
theorem NoC.tail {O : Own} {q : Addr × HO} (h : NoC (q :: O)) : NoC O := fun p hp => h p (List.mem_cons_of_mem _ hp)
section
variable {T : List (Addr × Str)} {B E O : Own} {G G' H H1 : Hp}
theorem TbR.up (h : TbR T B G) (e : Ext G G') : TbR T B G' := ⟨h.1, fun p hp => by
  obtain ⟨ps, h1, h2, h3⟩ := h.2 p hp
  refine ⟨ps, h1, h2, fun pos cv hc => ?_⟩
  obtain ⟨c, e1, e2⟩ := h3 pos cv hc
  exact ⟨c, e1, e _ _ e2⟩⟩
theorem TbR.tabs (h : TbR T B G) (S : Sub G (E ++ (B ++ O)) H) : Tabs T H := fun p hp => by
  obtain ⟨ps, h1, h2, h3⟩ := h.2 p hp
  have hm : (p.1, HO.tbl ps) ∈ E ++ (B ++ O) := List.mem_append_right _ (List.mem_append_left _ h1)
  refine ⟨ps, (S.own _ hm).1, h2, fun pos cv hc => ?_⟩
  obtain ⟨c, e1, e2⟩ := h3 pos cv hc
  exact ⟨c, e1, S.ext _ _ e2⟩
theorem TbR.uniq (h : TbR T B G) (S : Sub G (E ++ (B ++ O)) H) {P : Addr} {q : Str} (hm : (P, q) ∈ T) : ∀ p ∈ T, p.1 = P → p.2 = q := fun p hp e => by
  have nd : (T.map (·.1)).Nodup := by
    rw [← h.1]
    have := S.nd
    rw [List.map_append, List.map_append] at this
    exact (List.nodup_append.mp (List.nodup_append.mp this).2.1).1
  obtain ⟨i, hi, e1⟩ := List.mem_iff_getElem.mp hp
  obtain ⟨j, hj, e2⟩ := List.mem_iff_getElem.mp hm
  have h1 : (T.map (·.1))[i]? = (T.map (·.1))[j]? := by
    rw [List.getElem?_map, List.getElem?_map, List.getElem?_eq_getElem hi, List.getElem?_eq_getElem hj, e1, e2]
    show some p.1 = some P
    rw [e]
  have h2 : i = j := (List.getElem?_inj (by rw [List.length_map]; exact hi) nd).mp h1
  subst h2
  rw [← e1, e2]
open Classical in
/-- behind the making of a lambda -/
theorem tab_step (S : Sub G (E ++ (B ++ O)) H) (hB : TbR T B G) (hn : NoC (E ++ O)) (e : ExtN H H1) (t : Tabs T H1) : ∃ G1 B1, Ext G G1 ∧ Sub G1 (E ++ (B1 ++ O)) H1 ∧ TbR T B1 G1 := by
  have mB : ∀ p ∈ B, ∃ q ∈ T, q.1 = p.1 := fun p hp => by
    have h1 : p.1 ∈ B.map (·.1) := List.mem_map.mpr ⟨p, hp, rfl⟩
    rw [hB.1] at h1
    obtain ⟨q, h2, h3⟩ := List.mem_map.mp h1
    exact ⟨q, h2, h3⟩
  have mT : ∀ q ∈ T, ∃ p ∈ B, p.1 = q.1 := fun p hp => by
    have h1 : p.1 ∈ T.map (·.1) := List.mem_map.mpr ⟨p, hp, rfl⟩
    rw [← hB.1] at h1
    obtain ⟨q, h2, h3⟩ := List.mem_map.mp h1
    exact ⟨q, h2, h3⟩
  refine ⟨fun b => if ∃ q, H1 b = some (CodeO b q) then H1 b else G b, B.map fun p => (p.1, (H1 p.1).getD (.tbl #[])), fun b o hb => ?_, ⟨fun b o hb => ?_, fun p hp => ?_, ?_, fun b ps z => ?_⟩, ⟨?_, fun p hp => ?_⟩⟩
  · have h1 : H1 b = some o := e _ _ (S.ext _ _ hb) fun ps z => S.nt b ps (by rw [hb, z])
    by_cases c : ∃ q, H1 b = some (CodeO b q)
    · show (if _ then H1 b else G b) = some o
      rw [if_pos c]; exact h1
    · show (if _ then H1 b else G b) = some o
      rw [if_neg c]; exact hb
  · by_cases c : ∃ q, H1 b = some (CodeO b q)
    · have hb : (if _ then H1 b else G b) = some o := hb
      rw [if_pos c] at hb; exact hb
    · have hb : (if _ then H1 b else G b) = some o := hb
      rw [if_neg c] at hb
      exact e _ _ (S.ext _ _ hb) fun ps z => S.nt b ps (by rw [hb, z])
  · have go : ∀ p : Addr × HO, p ∈ E ++ O → H1 p.1 = some p.2 ∧ (if ∃ q, H1 p.1 = some (CodeO p.1 q) then H1 p.1 else G p.1) = none := fun p hp => by
      have hm : p ∈ E ++ (B ++ O) := (List.mem_append.mp hp).elim (fun z => List.mem_append_left _ z) fun z => List.mem_append_right _ (List.mem_append_right _ z)
      have h1 : H1 p.1 = some p.2 := e _ _ (S.own p hm).1 (hn p hp).2
      refine ⟨h1, ?_⟩
      rw [if_neg fun ⟨q, z⟩ => (hn p hp).1 q (Option.some.inj (h1.symm.trans z))]
      exact (S.own p hm).2
    rcases List.mem_append.mp hp with hp | hp
    · exact go p (List.mem_append_left _ hp)
    · rcases List.mem_append.mp hp with hp | hp
      · obtain ⟨p0, hp0, rfl⟩ := List.mem_map.mp hp
        obtain ⟨q, hq, eq⟩ := mB p0 hp0
        obtain ⟨ps, t1, _, _⟩ := t q hq
        rw [eq] at t1
        refine ⟨by show H1 p0.1 = some ((H1 p0.1).getD _); rw [t1]; rfl, ?_⟩
        show (if ∃ q, H1 p0.1 = some (CodeO p0.1 q) then H1 p0.1 else G p0.1) = none
        rw [if_neg fun ⟨q, z⟩ => (by rw [t1] at z; exact codeO_ne ps (Option.some.inj z).symm)]
        exact (S.own p0 (List.mem_append_right _ (List.mem_append_left _ hp0))).2
      · exact go p (List.mem_append_right _ hp)
  · have h1 : (B.map fun p => (p.1, (H1 p.1).getD (.tbl #[]))).map (·.1) = B.map (·.1) := by rw [List.map_map]; rfl
    have := S.nd
    rw [List.map_append, List.map_append] at this ⊢
    rw [h1]; exact this
  · have z : (if ∃ q, H1 b = some (CodeO b q) then H1 b else G b) = some (.tbl ps) := z
    by_cases c : ∃ q, H1 b = some (CodeO b q)
    · rw [if_pos c] at z
      obtain ⟨q, c⟩ := c
      rw [c] at z
      exact codeO_ne ps (Option.some.inj z)
    · rw [if_neg c] at z; exact S.nt b ps z
  · rw [List.map_map]; exact hB.1
  · obtain ⟨ps, t1, t2, t3⟩ := t p hp
    obtain ⟨b, hb, eb⟩ := mT p hp
    refine ⟨ps, List.mem_map.mpr ⟨b, hb, ?_⟩, t2, fun pos cv hc => ?_⟩
    · rw [eb, t1]; rfl
    · obtain ⟨c, e1, e2⟩ := t3 pos cv hc
      refine ⟨c, e1, ?_⟩
      show (if ∃ q, H1 c = some (CodeO c q) then H1 c else G c) = _
      rw [if_pos ⟨_, e2⟩]; exact e2
end
/-- at the law's begin -/
theorem TbR.start {T : List (Addr × Str)} {G : Hp} : TbR T (T.map fun p => (p.1, HO.tbl #[])) G := ⟨by rw [List.map_map]; rfl, fun p hp => ⟨#[], List.mem_map.mpr ⟨p, hp, rfl⟩, True.intro, fun pos cv hc => by
  have z : codeAmong pos [] = some cv := hc
  simp [codeAmong] at z⟩⟩
/-! ### the code of a def -/
theorem FunD_okC {P : Program} {w : World} {K : PySem.W.Frag} {mg : Str → Option Value} {base : Heap} {x qual : Str} {params : Arguments} {body : List Stmt} {scope : Scope} {dvs : List V} {kws : List (Str × V)} {d : Str × Option Str} {fd : FuncData}
    {CX : CXT} {N ps : List Str} {k : Nat} {sp : Sp} (F : FunD K x qual params body scope dvs kws (He.fAd K d) fd) (S : FnScope N ps scope) (len : ∀ vs H Q E, sp vs H Q E → vs.length = ps.length)
    (hbody : ∀ (A : Around) (outer : List Env) (s : Shared) (H : Hp) (vs : List V) (Q : VK) (E : XK), Room k (A.deeper (envOfC qual scope s.heap.objs.size (He.fAd K d) (.ref (He.codeOf K d)))) → sp vs H Q E →
      ∃ t, PSs (cxOf CX P w K mg base N qual scope (He.fAd K d) (.ref (He.codeOf K d)) A outer s H E) body t ∧ t { nx := fun _ H' => Q .non H', rt := Q } (L2.start N vs) H) : FnOk P w K mg base CX (k + 1) (He.fAd K d) fd ps sp := by
  obtain ⟨oc, od, dV, kV, doc, pm, an, cdv, ct, osl, rfl, lk, hcd, _, _⟩ := F.ex
  obtain ⟨c, rfl⟩ := He.codeIn_ref hcd
  have e : He.codeOf K d = c := He.codeOf_eq lk rfl
  subst e
  exact fn_of lk hcd S len fun A outer s H vs Q E hr hsp => hbody A outer s H vs Q E hr hsp
/-! ### the def that gets the lambda -/
theorem takes_len {X : Cx} {W : WX} (tk : Takes X W) : Takes X (fun cls d σ H => σ.length = X.N.length → W cls d σ H) := fun u s' ⟨a, B, sI, pins, σ, H, cls, d, e, I, nb, up, sky, na, os, ag, w⟩ =>
  tk u s' ⟨a, B, sI, pins, σ, H, cls, d, e, I, nb, up, sky, na, os, ag, w I.len⟩
theorem pe_lamF {X : Cx} {T : List (Addr × Str)} {TT : (XK → Hp → VK → Prop) → Hp → VK → Prop} {x a : Str} {g c P : Addr} {k : Nat} {pg : Arguments} {bg : List Stmt} {sg : Scope} {fd : FuncData} {Ng : List Str} {params : Arguments} {body : Expr} {scope : Scope} {t : XK → TE} {p lpos pos : Pos}
    (F : FunD X.K x x pg bg sg [] [] g fd) (hb : Binds X.K fd [a] []) (hg : Gl X x) (hm : X.mg x = some (.ref g)) (Sg : FnScope Ng [a] sg) (hNg : Ng[0]? = some a) (hva : Vis sg a)
    (hG : ∀ cdg, GivesTo X Ng x sg g cdg bg a (X.env.qual ++ "<lambda>") TT) (TB : TabB X.base X.mg c P) (hcode : X.env.code = .ref c) (hmT : (P, X.env.qual ++ "<lambda>") ∈ T) (hu : ∀ p ∈ T, p.1 = P → p.2 = X.env.qual ++ "<lambda>") (hr : Room (k + 2) X.A)
    (L : LamS X.env.scope scope) (hdef : defaultsOf params X.env = ([], [])) (hbind : ∀ (q : Str) (cl : List (Str × Addr)) (pm cv ctv : Value), bindArgs (PySem.W.kla_fn "<lambda>" q params body scope cl pm cv ctv) ⟨[], []⟩ = pure [])
    (hbody : ∀ (A : Around) (outer : List Env) (s : Shared) (H : Hp) (E : XK) (f c' : Addr), Room k (A.deeper (lamEnv X scope s.heap.objs.size f c')) → PE (lamCx X A outer s H E scope f c') body (t E))
    (hdb : (x == ("__debug__" : Str)) = false := by decide) (hd : (a == ("__debug__" : Str)) = false := by decide) (hcd : (a == ("__classdict__" : Str)) = false := by decide) :
    PE X (.Call (.Name x p) [.Lambda params body scope lpos] [] pos) (tLam T TT t) := by
  obtain ⟨oc, od, dV, kV, doc, pm, an, cdv, ct, osl, rfl, lk, hcg, hD, hK⟩ := F.ex
  exact pe_lamcall hg hm F.kp lk hcg hb Sg hNg hva (hG cdv) TB hcode hmT hu hr L hdef hbind hbody hdb hd hcd
theorem passLam {X : Cx} {A : Around} {outer : List Env} {s : Shared} {H : Hp} {E : XK} {scope : Scope} {f c' : Addr} : Passes (L2.CX X.prog X.w) (lamCx X A outer s H E scope f c') E := passes_call (takes_of rfl rfl rfl rfl) fun _ _ _ _ h => h
theorem gLam {T : List (Addr × Str)} {TT : (XK → Hp → VK → Prop) → Hp → VK → Prop} {t : XK → TE} {σ : L2.St} {H : Hp} {Q : VK} (h : Tabs T H ∧ ∀ H1, ExtN H H1 → Tabs T H1 → TT (fun E H' Q' => t E σ H' Q') H1 Q) : tLam T TT t σ H Q := h
section
variable {G H : Hp} {x : Addr × HO} {E B O : Own}
theorem Sub.bFr0 (S : Sub G (E ++ (B ++ O)) H) : Sub G (B ++ (E ++ O)) H := S.perm (by
  rw [← List.append_assoc, ← List.append_assoc]
  exact List.perm_append_comm.append_right O)
theorem Sub.bBk0 (S : Sub G (B ++ (E ++ O)) H) : Sub G (E ++ (B ++ O)) H := Sub.bFr0 S
theorem Sub.bFr1 (S : Sub G (x :: (E ++ (B ++ O))) H) : Sub G (x :: (B ++ (E ++ O))) H := S.perm (by
  rw [← List.append_assoc, ← List.append_assoc]
  exact List.Perm.cons x (List.perm_append_comm.append_right O))
theorem Sub.bBk1 (S : Sub G (x :: (B ++ (E ++ O))) H) : Sub G (x :: (E ++ (B ++ O))) H := Sub.bFr1 S
end
theorem gSeqTB {t tr : TS} {D : Ends} {σ : L2.St} {H : Hp} (h : t { D with nx := tr D } σ H) : tSeq t tr D σ H := h
theorem gXf {a : Addr} {cls : Value} {d : Option Addr} {C : Addr} {f : Str} {te : TE} {σ : L2.St} {H : Hp} {Q : VK} (h : te σ H fun x H1 => x = .ref a ∧ cls = .ref C ∧ ∃ (dd : Addr) (fs : List (Str × V)) (v : V), d = some dd ∧ H1 dd = some (.xd fs) ∧ fs.lookup f = some v ∧ Q v H1) : tXf a cls d C f te σ H Q := h
theorem call_isG {X : Cx} {a D : Addr} {oe : Obj} {cls : Value} {d : Option Addr} {pn : List (Addr × Obj)} (C : ExcC X.K D) (hz : Zc cls d oe) (hf : ∃ vs, oe.data = .fields vs) : CallR (X.suite a ((a, oe) :: pn)) (.builtin "isinstance") (fun xs H Q => cls = .ref D ∧ rIsF X.K D a d xs H Q) := by
  intro pins s σ H xs us Q I r h
  obtain ⟨rfl, h⟩ := h
  exact call_isF C hz hf pins s σ H xs us Q I r h
theorem len2 {σ : L2.St} (h : σ.length = 2) : ∃ a b, σ = [a, b] := by
  match σ, h with
  | [a, b], _ => exact ⟨a, b, rfl⟩
theorem len3 {σ : L2.St} (h : σ.length = 3) : ∃ a b c, σ = [a, b, c] := by
  match σ, h with
  | [a, b, c], _ => exact ⟨a, b, c, rfl⟩
theorem len4 {σ : L2.St} (h : σ.length = 4) : ∃ a b c d, σ = [a, b, c, d] := by
  match σ, h with
  | [a, b, c, d], _ => exact ⟨a, b, c, d, rfl⟩
/-- the law's begin with tables -/
theorem lam_start {K : PySem.W.Frag} {H : Hp} {T : List (Addr × Str)} {a : Addr} {xs : List V} (h : SqL K H a xs) (hT : ∀ p ∈ T, H p.1 = some (.tbl #[])) (hK : ∀ p ∈ T, K.lookup p.1 = none) (nd : (T.map (·.1)).Nodup) :
    ∃ G, Sub G ((T.map fun p => (p.1, HO.tbl #[])) ++ []) H ∧ SqL K G a xs := by
  refine Sub.start h (fun p hp => ?_) (by rw [List.append_nil, List.map_map]; exact nd)
  rw [List.append_nil] at hp
  obtain ⟨q, hq, rfl⟩ := List.mem_map.mp hp
  refine ⟨hT q hq, fun e => ?_⟩
  have e : q.1 = a := e
  have h1 := hT q hq
  rw [e] at h1
  rcases h with (h | ⟨o, h⟩) | ⟨o, its, n, h, _⟩
  · rw [h1] at h; cases h
  · rw [h1] at h; cases h
  · have h2 := hK q hq
    rw [e, h] at h2; cases h2
/-! ### the head with tables -/
def AlE : Type := He.AlD × Bool
/-- all but the empty tables; the statics stay -/
def frS (g : Addr → Option Obj) (as : List Addr) : PySem.W.Frag := (He.frG g as).filter fun q => !He.emptyTab q.2 || q.1 == cStatics
theorem frS_mem {g : Addr → Option Obj} {as : List Addr} {a : Addr} {o : Obj} (h : (frS g as).lookup a = some o) : g a = some o ∧ (He.emptyTab o = false ∨ a = cStatics) := by
  obtain ⟨h1, h2⟩ := List.mem_filter.mp (He.lookup_mem h)
  refine ⟨He.frG_mem h1, ?_⟩
  rcases (Bool.or_eq_true ..).mp h2 with h | h
  · exact .inl (by simpa using h)
  · exact .inr (by simpa using h)
theorem frS_in {as : List Addr} {h : Heap} : (frS h.get? as).In h := fun _ _ e => (frS_mem e).1
theorem frS_none {g : Addr → Option Obj} {as : List Addr} {a : Addr} {o : Obj} (h : g a = some o) (ht : He.emptyTab o = true) (hc : a ≠ cStatics) : (frS g as).lookup a = none := by
  cases e : (frS g as).lookup a with
  | none => rfl
  | some u =>
    obtain ⟨h1, h2⟩ := frS_mem e
    rw [h] at h1
    cases h1
    rcases h2 with h2 | h2
    · rw [ht] at h2; cases h2
    · exact absurd h2 hc
def asS (g : Addr → Option Obj) (n : Nat) : List Addr := cStatics :: He.asD g n
def tabsS (g : Addr → Option Obj) (tf : List He.Defn) (K : PySem.W.Frag) : Bool := He.tabsB g tf K && tf.all fun p => decide ((He.cT K p).2 ≠ cStatics)
def obsEGT (n : Nat) (fa : List He.Fa) (fn : List He5.DefA) (ex : List FrT) (tf : List He.Defn) (g : Addr → Option Obj) : He.AlD × Bool := (obsE fa fn ex (frS g (asS g n)), tabsS g tf (frS g (asS g n)))
structure SaysET (fa : List He.Fa) (fn : List He5.DefA) (ex : List FrT) (tf : List He.Defn) (h : Heap) (K : PySem.W.Frag) : Prop where
  t : SaysE fa fn ex K
  hd : ∀ p ∈ tf, PySem.W.codeHdIn K (He.cT K p).1 (He.cT K p).2 = true
  out : ∀ p ∈ tf, K.lookup (He.cT K p).2 = none
  empty : ∀ p ∈ tf, h.get? (He.cT K p).2 = some { cls := .none, data := .fields #[] }
theorem saysET_of {n : Nat} {fa : List He.Fa} {fn : List He5.DefA} {ex : List FrT} {tf : List He.Defn} {h : Heap} (e : obsEGT n fa fn ex tf h.get? = (valE fn, true)) : SaysET fa fn ex tf h (frS h.get? (asS h.get? n)) := by
  have e1 : obsE fa fn ex (frS h.get? (asS h.get? n)) = valE fn := congrArg (·.1) e
  have e2 : tabsS h.get? tf (frS h.get? (asS h.get? n)) = true := congrArg (·.2) e
  have ky : ∀ p ∈ tf, PySem.W.codeHdIn (frS h.get? (asS h.get? n)) (He.cT (frS h.get? (asS h.get? n)) p).1 (He.cT (frS h.get? (asS h.get? n)) p).2 = true ∧ ∃ o, h.get? (He.cT (frS h.get? (asS h.get? n)) p).2 = some o ∧ He.emptyTab o = true ∧ (He.cT (frS h.get? (asS h.get? n)) p).2 ≠ cStatics := by
    intro p hp
    obtain ⟨e3, e4⟩ := He.ba e2
    obtain ⟨a1, a2⟩ := He.ba (List.all_eq_true.mp e3 p hp)
    refine ⟨a1, ?_⟩
    split at a2
    · rename_i o q; exact ⟨o, q, a2, of_decide_eq_true (List.all_eq_true.mp e4 p hp)⟩
    · cases a2
  exact ⟨e1, fun p hp => (ky p hp).1, fun p hp => let ⟨_, o, q, z, n⟩ := ky p hp; frS_none q z n, fun p hp => let ⟨_, o, q, z, n⟩ := ky p hp; by rw [q, He.emptyTab_eq z]⟩
def hookET (n : Nat) (fa : List He.Fa) (fn : List He5.DefA) (ex : List FrT) (tf : List He.Defn) : PySem.W.Hook where
  α := He.AlD × Bool
  obs := fun s => obsEGT n fa fn ex tf s.heap.get?
  val := fun _ => (valE fn, true)
  says := fun _ h => ∃ K : PySem.W.Frag, K.In h ∧ SaysET fa fn ex tf h K
  of := fun _ _ e => ⟨_, frS_in, saysET_of e⟩
  keeps := fun _ _ _ ⟨K, hK, c⟩ k => ⟨K, PySem.W.Frag.In.keeps hK k, ⟨c.t, c.hd, c.out, fun p hp => k _ _ (c.empty p hp)⟩⟩
theorem obsEGT_eq {n : Nat} {fa : List He.Fa} {fn : List He5.DefA} {ex : List FrT} {tf : List He.Defn} {g : Addr → Option Obj} {s : Shared} (h : ∀ a, g a = s.heap.get? a) : obsEGT n fa fn ex tf g = (hookET n fa fn ex tf).obs s := by
  have e : g = s.heap.get? := funext h
  rw [e] <;> rfl
end Mr

set_option Elab.async false
set_option linter.all false
set_option maxRecDepth 100000
set_option maxHeartbeats 2000000
/-! LamV: a lambda and a name handed to a def. -/
namespace Mr
open PySem PySem.Spec PyProof.Rows L2 LamX
section
variable {X : Cx} {pins : List (Addr × Obj)} {σ : L2.St} {H : Hp} {s : Shared}
/-- a(), in the def that got the lambda; where it raises the slots are as they were -/
theorem act_at {CXg : CXT} {Eg : XK} {Ng : List Str} {qg : Str} {sg : Scope} {g f c' : Addr} {cdg pm ctv : Value} {params : Arguments} {body : Expr} {scope : Scope} {k i : Nat} {a : Str} {pn : List (Addr × Obj)} {xe : Value → Shared → Prop} {W : WX} {E : XK} {tb : TE} {p1 p2 : Pos} {P : L2.St → Prop}
    (I : Inv X pins σ H s) (L : LamS X.env.scope scope) (hf : s.heap.get? f = some (PySem.W.kla_obj "<lambda>" (X.env.qual ++ "<lambda>") params body scope (cloFrom X.env.cells scope.names []) pm c' ctv)) (hfn : H f = none) (hfr : f ∉ frs X.stack)
    (hbind : bindArgs (PySem.W.kla_fn "<lambda>" (X.env.qual ++ "<lambda>") params body scope (cloFrom X.env.cells scope.names []) pm (.ref c') ctv) ⟨[], []⟩ = pure [])
    (tk : Takes ((cxOf CXg X.prog X.w X.K X.mg X.base Ng qg sg g cdg X.A X.stack s H Eg).tr pn xe) W) (hW : ∀ σ', P σ' → ∀ cls d H', E cls d H' → W cls d σ' H') (hr : Room (k + 1) (X.A.deeper (envOfC qg sg s.heap.objs.size g cdg)))
    (hbody : ∀ (A : Around) (outer : List Env) (s : Shared) (H : Hp), Room k (A.deeper (lamEnv X scope s.heap.objs.size f c')) → PE (lamCx X A outer s H E scope f c') body tb)
    (hN : Ng[i]? = some a) (hv : Vis sg a) (hd : (a == ("__debug__" : Str)) = false) (hcd : (a == ("__classdict__" : Str)) = false) :
    PE ((cxOf CXg X.prog X.w X.K X.mg X.base Ng qg sg g cdg X.A X.stack s H Eg).tr pn xe) (.Call (.Name a p1) [] [] p2)
      (fun σZ HZ Q => σZ[i]? = some (some (.ref f)) ∧ P σZ ∧ HZ c' = some (CodeO c' (X.env.qual ++ "<lambda>")) ∧ tb σ HZ Q) := by
  refine ⟨fun pinsZ sZ σZ HZ Q IZ ⟨hs, hP, hc, ht⟩ => ?_⟩
  have hnm := (pe_var (pos := p1) (i := i) hN hv hd hcd).run pinsZ sZ σZ HZ (fun v H1 => v = .ref f ∧ H1 = HZ) IZ ⟨.ref f, hs, rfl, rfl⟩
  refine wpAny_Call_Name_kw (thn hnm fun u s1 ⟨v, H1, I1, r1, ev, eH⟩ => ?_)
  subst ev eH
  obtain rfl : u = Value.ref f := r1
  have fx : f ∉ ([] : List Addr) := by simp
  have ho := I1.base.keep f _ hf hfn hfr fx
  have un : Un (frs X.stack) [] H H1 s.heap s1.heap := I1.base
  obtain ⟨⟨oc, vs, t, hoc, hdc, hvc⟩, _, _⟩ := I1.hok c' _ hc
  refine PySem.W.callWith_F0 ⟨_, _, _, _, ho⟩ ?_
  have rc : codeAny (model X.prog X.w) (X.A.deeper (envOfC qg sg s.heap.objs.size g cdg)) (.call (.ref f) ⟨[], []⟩) (CR (L2.CX X.prog X.w) (envOfC qg sg s.heap.objs.size g cdg :: X.stack) X.prog X.w H1 s1 Q E) s1 := by
    refine PySem.W.kla_callFunE hr.depth ho rfl L.co L.gen rfl ⟨c', oc, vs, t, rfl, hoc, hdc, hvc⟩ ?_
    rw [hbind]
    refine wpAny_pure (wpAny_newFunctionEnv (fun y hy => (L.own y hy).2) (fun y hy => absurd hy (by simp)) (fun h₁ hns hsb => ⟨I1.nolimit.fresh _ hsb, ?_⟩) L.kind)
    have kp : ∀ b o, s1.heap.get? b = some o → h₁.get? b = some o := fun b o e => hsb.extBut b o (Nat.ne_of_lt (Heap.lt_size e)) (Heap.get?_push_of_some _ e)
    have J := lam_start2 (E := E) (f := f) (c' := c') (tk := s1.toks + ([] : List (Str × Value)).length) I L I1.env0 hr.hd un hns kp
    exact PySem.W.kla_codeExpr (wpAny_mono ((hbody _ _ s1 H1 (hr.deeper _)).run [] _ _ H1 Q J ht) (fun v s' ⟨w', H', J', rv, q⟩ => ⟨w', H', J'.os, J'.bare, J'.base, J'.hok, rv, q⟩) fun e s' hq => hq)
  refine wpAny_call (codeAny_mono rc fun r s' hq => ?_)
  cases r with
  | error e => exact tk e s' (XE.of_call I1 (hW σZ hP) hq)
  | ok fl => cases fl with
    | ret u => exact I1.after hq
    | next => exact False.elim hq
    | brk => exact False.elim hq
    | cont => exact False.elim hq
end
/-- the def that calls what it got first; it also gets a value -/
def GivesTo2 (X : Cx) (Ng : List Str) (x : Str) (sg : Scope) (g : Addr) (cdg : Value) (bg : List Stmt) (a : Str) (q : Str) (TT : (XK → Hp → VK → Prop) → V → Hp → VK → Prop) : Prop :=
  ∀ (f c' : Addr) (s : Shared) (H : Hp) (Q : VK) (tl : XK → Hp → VK → Prop) (v : V), Room 0 (X.A.deeper (envOfC x sg s.heap.objs.size g cdg)) →
    (∀ (W : WX) (pn : List (Addr × Obj)) (xe : Value → Shared → Prop) (E : XK) (p1 p2 : Pos), Takes ((cxOf C8.CX0 X.prog X.w X.K X.mg X.base Ng x sg g cdg X.A X.stack s H C8.E0).tr pn xe) W → (∀ σ' : L2.St, σ'[1]? = some (some v) ∧ σ'.length = Ng.length → ∀ cls d H', E cls d H' → W cls d σ' H') →
      PE ((cxOf C8.CX0 X.prog X.w X.K X.mg X.base Ng x sg g cdg X.A X.stack s H C8.E0).tr pn xe) (.Call (.Name a p1) [] [] p2) (fun σZ HZ Q => σZ[0]? = some (some (.ref f)) ∧ (σZ[1]? = some (some v) ∧ σZ.length = Ng.length) ∧ HZ c' = some (CodeO c' q) ∧ tl E HZ Q)) →
    H c' = some (CodeO c' q) → TT tl v H Q →
    ∃ t, PSs (cxOf C8.CX0 X.prog X.w X.K X.mg X.base Ng x sg g cdg X.A X.stack s H C8.E0).nox bg t ∧ t { nx := fun _ H' => Q .non H', rt := Q } (L2.start Ng [.ref f, v]) H
def tLam2 (T : List (Addr × Str)) (TT : (XK → Hp → VK → Prop) → V → Hp → VK → Prop) (i : Nat) (t : XK → TE) : TE := fun σ H Q => Tabs T H ∧ ∃ v, σ[i]? = some (some v) ∧ ∀ H1, ExtN H H1 → Tabs T H1 → TT (fun E H' Q' => t E σ H' Q') v H1 Q
theorem gLam2 {T : List (Addr × Str)} {TT : (XK → Hp → VK → Prop) → V → Hp → VK → Prop} {i : Nat} {t : XK → TE} {σ : L2.St} {H : Hp} {Q : VK} {v : V} (hv : σ[i]? = some (some v)) (h : Tabs T H ∧ ∀ H1, ExtN H H1 → Tabs T H1 → TT (fun E H' Q' => t E σ H' Q') v H1 Q) : tLam2 T TT i t σ H Q := ⟨h.1, v, hv, h.2⟩
section
variable {X : Cx}
/-- x(lambda: body, y) -/
theorem pe_lamcall2 {T : List (Addr × Str)} {TT : (XK → Hp → VK → Prop) → V → Hp → VK → Prop} {x a b y : Str} {g c P : Addr} {k i : Nat} {pg : Arguments} {bg : List Stmt} {sg : Scope} {dV kV doc pm cdv ct oc : Value} {an od : Option Addr} {osl : Array (Option Value)} {Ng : List Str}
    {params : Arguments} {body : Expr} {scope : Scope} {t : XK → TE} {p lpos pos py : Pos} (hg : Gl X x) (hm : X.mg x = some (.ref g)) (hk : PySem.W.keepIn X.K (.ref g) = true)
    (lk : X.K.lookup g = some ⟨oc, od, .func (PySem.W.fnOf x x pg bg sg dV kV doc pm an cdv ct), osl⟩) (hcg : PySem.W.codeIn X.K cdv x = true) (hb : L2.Binds X.K (PySem.W.fnOf x x pg bg sg dV kV doc pm an cdv ct) [a, b] []) (Sg : FnScope Ng [a, b] sg) (hNg : Ng[0]? = some a) (hva : Vis sg a)
    (hG : GivesTo2 X Ng x sg g cdv bg a (X.env.qual ++ "<lambda>") TT)
    (TB : TabB X.base X.mg c P) (hcode : X.env.code = .ref c) (hmT : (P, X.env.qual ++ "<lambda>") ∈ T) (hu : ∀ p ∈ T, p.1 = P → p.2 = X.env.qual ++ "<lambda>") (hr : Room (k + 2) X.A) (L : LamS X.env.scope scope) (hdef : defaultsOf params X.env = ([], []))
    (hbind : ∀ (q : Str) (cl : List (Str × Addr)) (pm cv ctv : Value), bindArgs (PySem.W.kla_fn "<lambda>" q params body scope cl pm cv ctv) ⟨[], []⟩ = pure [])
    (hbody : ∀ (A : Around) (outer : List Env) (s : Shared) (H : Hp) (E : XK) (f c' : Addr), Room k (A.deeper (lamEnv X scope s.heap.objs.size f c')) → PE (lamCx X A outer s H E scope f c') body (t E))
    (hy : PE X (.Name y py) (tVar i))
    (hdb : (x == ("__debug__" : Str)) = false := by decide) (hd : (a == ("__debug__" : Str)) = false := by decide) (hcd : (a == ("__classdict__" : Str)) = false := by decide) :
    PE X (.Call (.Name x p) [.Lambda params body scope lpos, .Name y py] [] pos) (tLam2 T TT i t) := by
  refine ⟨fun pins s σ H Q I h => ?_⟩
  obtain ⟨hT, v, hv, h⟩ := h
  refine wpAny_Call_Name_kw (ld_glob I hg hm ?_ hdb)
  refine PySem.W.callWith_K (h₀ := X.base) I.ok.mod.kin hk ?_ (by rfl) (by rfl)
  show wpAny _ _ (spliced ((false, eval (.Lambda params body scope lpos) X.env) :: backTo pos (starEach [.Name y py] X.env))) _ _ s
  refine Calls.spliced_cons (lam_make2 I TB hcode hmT hu hT hdef (L.has I.ok) fun f c' pm' ctv H1 s' I1 eN T1 hf hfn hfr hco => ?_)
  have hst : f ∉ X.fs ∧ f ≠ X.env.locals := by
    rcases I1.ok.stk with e | ⟨e, hf2⟩
    · rw [e] at hfr
      refine ⟨hfr, fun z => ?_⟩
      obtain ⟨m, hn, _⟩ := I1.loc
      obtain ⟨o, es, ep, ho, hd, _⟩ := hn
      rw [← z, hf] at ho
      cases ho
      cases hd
    · rw [e] at hfr
      unfold frs at hfr
      rw [List.filterMap_cons, hf2] at hfr
      exact ⟨fun z => hfr (List.mem_cons_of_mem _ z), fun z => hfr (by rw [z]; exact List.mem_cons_self)⟩
  have I2 : Inv X ((f, PySem.W.kla_obj "<lambda>" (X.env.qual ++ "<lambda>") params body scope (cloFrom X.env.cells scope.names []) pm' c' ctv) :: pins) σ H1 s' := I1.pins_of fun p hp => by
    rcases List.mem_cons.mp hp with e | hp
    · subst e
      exact ⟨hf, hfn, hst.2, hst.1, fun v z => by cases z⟩
    · exact I1.pin p (List.mem_append_right _ hp)
  refine Calls.spliced_cons (thn (hy.run _ s' σ H1 (fun w H2 => w = v ∧ H2 = H1) I2 ⟨v, hv, rfl, rfl⟩) fun u s2 ⟨w, H2, I3, rw_, ew, eH⟩ => ?_)
  subst ew eH
  have hf2 := (I3.pin _ (List.mem_append_right _ List.mem_cons_self)).1
  have I4 : Inv X pins σ H2 s2 := I3.pins_of fun p hp => I3.pin p (List.mem_append_right _ (List.mem_cons_of_mem _ hp))
  refine Calls.spliced_nil ⟨I4.kIn, ?_⟩
  have rc : codeAny (model X.prog X.w) X.A (.call (.ref g) ⟨[.ref f, u], []⟩) (CR C8.CX0 X.stack X.prog X.w H2 s2 Q C8.E0) s2 := by
    refine run_ofS (N := Ng) (ps := [a, b]) (us := [.ref f, u]) (vs := [.ref f, w]) lk hcg Sg hr I4.env0 (hb s2 [.ref f, u] I4.kIn rfl) (.cons rfl (.cons rw_ .nil)) rfl fun hr' => ?_
    obtain ⟨t', ht', hq'⟩ := hG f c' s2 H2 Q (fun E H' Q' => t E σ H' Q') w (hr'.mono (Nat.zero_le _)) (fun W pn xe E p1 p2 tk hW => act_at (i := 0) I4 L hf2 hfn hfr (hbind _ _ _ _ _) tk hW hr' (fun A outer s H hr2 => hbody A outer s H E f c' hr2) hNg hva hd hcd) hco (h H2 eN T1)
    exact ⟨t', ht'.nox, hq'⟩
  refine wpAny_call (codeAny_mono rc fun r s3 hq => ?_)
  cases r with
  | error e => exact (show False from hq).elim
  | ok fl =>
    cases fl with
    | ret u => exact I4.after hq
    | next => exact False.elim hq
    | brk => exact False.elim hq
    | cont => exact False.elim hq
end
theorem pe_lamF2 {X : Cx} {T : List (Addr × Str)} {TT : (XK → Hp → VK → Prop) → V → Hp → VK → Prop} {x a b y : Str} {g c P : Addr} {k i : Nat} {pg : Arguments} {bg : List Stmt} {sg : Scope} {fd : FuncData} {Ng : List Str} {params : Arguments} {body : Expr} {scope : Scope} {t : XK → TE} {p lpos pos py : Pos}
    (F : FunD X.K x x pg bg sg [] [] g fd) (hb : Binds X.K fd [a, b] []) (hg : Gl X x) (hm : X.mg x = some (.ref g)) (Sg : FnScope Ng [a, b] sg) (hNg : Ng[0]? = some a) (hva : Vis sg a)
    (hG : ∀ cdg, GivesTo2 X Ng x sg g cdg bg a (X.env.qual ++ "<lambda>") TT) (TB : TabB X.base X.mg c P) (hcode : X.env.code = .ref c) (hmT : (P, X.env.qual ++ "<lambda>") ∈ T) (hu : ∀ p ∈ T, p.1 = P → p.2 = X.env.qual ++ "<lambda>") (hr : Room (k + 2) X.A)
    (L : LamS X.env.scope scope) (hdef : defaultsOf params X.env = ([], [])) (hbind : ∀ (q : Str) (cl : List (Str × Addr)) (pm cv ctv : Value), bindArgs (PySem.W.kla_fn "<lambda>" q params body scope cl pm cv ctv) ⟨[], []⟩ = pure [])
    (hbody : ∀ (A : Around) (outer : List Env) (s : Shared) (H : Hp) (E : XK) (f c' : Addr), Room k (A.deeper (lamEnv X scope s.heap.objs.size f c')) → PE (lamCx X A outer s H E scope f c') body (t E))
    (hy : PE X (.Name y py) (tVar i))
    (hdb : (x == ("__debug__" : Str)) = false := by decide) (hd : (a == ("__debug__" : Str)) = false := by decide) (hcd : (a == ("__classdict__" : Str)) = false := by decide) :
    PE X (.Call (.Name x p) [.Lambda params body scope lpos, .Name y py] [] pos) (tLam2 T TT i t) := by
  obtain ⟨oc, od, dV, kV, doc, pm, an, cdv, ct, osl, rfl, lk, hcg, hD, hK⟩ := F.ex
  exact pe_lamcall2 hg hm F.kp lk hcg hb Sg hNg hva (hG cdv) TB hcode hmT hu hr L hdef hbind hbody hy hdb hd hcd
end Mr

set_option linter.all false
/-! InkP: texts of '#' and '.', as lists of bools. -/
namespace Mr
abbrev Ink := List Bool
def fndF : Ink → Nat → Int
  | [], _ => -1
  | b :: l, i => if b then (i : Int) else fndF l (i + 1)
def rfnF : Ink → Nat → Int → Int
  | [], _, a => a
  | b :: l, i, a => rfnF l (i + 1) (if b then (i : Int) else a)
def fndI (b : Ink) : Int := fndF b 0
def rfnI (b : Ink) : Int := rfnF b 0 (-1)
def lstI (b : Ink) : Ink := b.dropWhile (!·)
def rstI (b : Ink) : Ink := (b.reverse.dropWhile (!·)).reverse
def fndM (b : Ink) : Option Int := if b.length ≤ 4 then some (fndI b) else none
def rfnM (b : Ink) : Option Int := if b.length ≤ 4 then some (rfnI b) else none
def lstM (b : Ink) : Option Ink := if b.length ≤ 4 then some (lstI b) else none
def rstM (b : Ink) : Option Ink := if b.length ≤ 4 then some (rstI b) else none
def lenI (b : Ink) : Option Int := if b.length ≤ 100000 then some (b.length : Int) else none
def cutI (b : Ink) (lo hi : Option Int) : Option Ink := if b.length ≤ 100000 then some (cutM b lo hi) else none
def getI (b : Ink) (i : Int) : Option Ink := if b.length ≤ 100000 then (getM b i).bind fun x => some [x] else none
def catI (a b : Ink) : Option Ink := if a.length + b.length ≤ 100000 then some (a ++ b) else none
def joinI (xs : List Ink) : Option Ink := if xs.flatten.length ≤ 100000 then some xs.flatten else none
def allI : Nat → List Ink
  | 0 => [[]]
  | n + 1 => (allI n).map (false :: ·) ++ (allI n).map (true :: ·)
def inks4 : List Ink := allI 0 ++ allI 1 ++ allI 2 ++ allI 3 ++ allI 4
theorem mem4I (b : Ink) (h : b.length ≤ 4) : b ∈ inks4 := by
  match b, h with
  | [], _ => decide +kernel
  | [a], _ => cases a <;> decide +kernel
  | [a, b], _ => cases a <;> cases b <;> decide +kernel
  | [a, b, c], _ => cases a <;> cases b <;> cases c <;> decide +kernel
  | [a, b, c, d], _ => cases a <;> cases b <;> cases c <;> cases d <;> decide +kernel
end Mr

set_option Elab.async false
set_option linter.all false
set_option maxRecDepth 100000
set_option maxHeartbeats 2000000
/-! MirS: texts of '#' and '.'. -/
namespace Mr
open PySem PySem.Spec PyProof.Rows L2
def e_Ink (bs : Ink) : Str := ⟨(bs.map fun b => if b then 35 else 46).toArray⟩
theorem inkL_inj : ∀ x y : Ink, (x.map fun b => if b then 35 else 46 : List Nat) = (y.map fun b => if b then 35 else 46) → x = y
  | [], [], _ => rfl
  | [], _ :: _, h => by cases h
  | _ :: _, [], h => by cases h
  | a :: x, b :: y, h => by
    rw [List.map_cons, List.map_cons] at h
    injection h with h1 h2
    rw [inkL_inj x y h2]
    congr 1
    cases a <;> cases b <;> first | rfl | (exfalso; revert h1; decide)
theorem e_Ink_inj : ∀ x y, e_Ink x = e_Ink y → x = y := fun x y h => by
  unfold e_Ink at h
  injection h with h
  exact inkL_inj x y (by simpa using congrArg Array.toList h)
theorem e_Ink_len (b : Ink) : (e_Ink b).length = b.length := by simp [e_Ink, Str.length]
theorem e_Ink_ok : ∀ x, PyData.strOk (e_Ink x) = true := fun x => by
  unfold PyData.strOk e_Ink
  simp
theorem pe_strI {X : Cx} {x : Str} {b : Ink} {j : Nat} {pos : Pos} (h : x = e_Ink b) : PE X (.Constant (.str x) j pos) (tC (.str (e_Ink b))) := h ▸ pe_str
theorem find_ink : ∀ b ∈ inks4, Txt.find (e_Ink b) (e_Ink [true]) = fndI b := by decide +kernel
theorem rfind_ink : ∀ b ∈ inks4, Txt.rfind (e_Ink b) (e_Ink [true]) = rfnI b := by decide +kernel
theorem lst_ink : ∀ b ∈ inks4, Txt.lstripChars (e_Ink b) (e_Ink [false]) = e_Ink (lstI b) := by decide +kernel
theorem rst_ink : ∀ b ∈ inks4, Txt.rstripChars (e_Ink b) (e_Ink [false]) = e_Ink (rstI b) := by decide +kernel
/-! ### rules -/
section
variable {X : Cx} {σ : L2.St} {H : Hp} {Q : VK}
def rFind : V → List V → Hp → VK → Prop := fun x xs H Q => ∃ a b, x = .str a ∧ xs = [.str b] ∧ Q (.int (Txt.find a b)) H
def rRfind : V → List V → Hp → VK → Prop := fun x xs H Q => ∃ a b, x = .str a ∧ xs = [.str b] ∧ Q (.int (Txt.rfind a b)) H
def rLst : V → List V → Hp → VK → Prop := fun x xs H Q => ∃ a b, x = .str a ∧ xs = [.str b] ∧ a.length ≤ sizeLine ∧ Q (.str (Txt.lstripChars a b)) H
def rRst : V → List V → Hp → VK → Prop := fun x xs H Q => ∃ a b, x = .str a ∧ xs = [.str b] ∧ a.length ≤ sizeLine ∧ Q (.str (Txt.rstripChars a b)) H
def rJoin (K : PySem.W.Frag) : V → List V → Hp → VK → Prop := fun x xs H Q => ∃ a p, ∃ ys : List Str, x = .str a ∧ xs = [.ref p] ∧ (SqL K H p (ys.map V.str) ∨ SqT K H p (ys.map V.str)) ∧
      (ys.map (·.length)).sum + ys.length * a.length ≤ 16777216 ∧ Q (.str (Txt.join a ys)) H
def rLenS : List V → Hp → VK → Prop := fun xs H Q => ∃ z, xs = [.str z] ∧ z.length ≤ sizeLine ∧ Q (.int z.length) H
theorem mt_findI : MtR X "str.find" rFind := mt_find
theorem mt_rfindI : MtR X "str.rfind" rRfind := mt_rfind
theorem mt_lstI : MtR X "str.lstrip" rLst := mt_lstripChars
theorem mt_rstI : MtR X "str.rstrip" rRst := mt_rstripChars
theorem mt_joinI {K : PySem.W.Frag} (h : X.K = K) : MtR X "str.join" (rJoin K) := by subst h; exact mt_join
theorem call_lenS : CallR X (.builtin "len") rLenS := call_len_str
theorem gM1 {r : V → List V → Hp → VK → Prop} {to te : TE} (h : to σ H fun x H1 => (∃ a, x = .str a) ∧ te σ H1 fun y H2 => r x [y] H2 Q) : tM1 r to te σ H Q := h
theorem ifS {α : Type} {c : Prop} [Decidable c] {a b : α} (h : (if c then some a else none) = some b) : c ∧ a = b := by
  by_cases k : c
  · rw [if_pos k] at h; exact ⟨k, Option.some.inj h⟩
  · rw [if_neg k] at h; cases h
theorem q_findI {b : Ink} {i : Int} (e : fndM b = some i) (q : Q (.int i) H) : rFind (.str (e_Ink b)) [.str (e_Ink [true])] H Q := by
  obtain ⟨c, rfl⟩ := ifS e
  exact ⟨_, _, rfl, rfl, by rw [find_ink b (mem4I b c)]; exact q⟩
theorem q_rfindI {b : Ink} {i : Int} (e : rfnM b = some i) (q : Q (.int i) H) : rRfind (.str (e_Ink b)) [.str (e_Ink [true])] H Q := by
  obtain ⟨c, rfl⟩ := ifS e
  exact ⟨_, _, rfl, rfl, by rw [rfind_ink b (mem4I b c)]; exact q⟩
theorem q_lstI {b z : Ink} (e : lstM b = some z) (q : Q (.str (e_Ink z)) H) : rLst (.str (e_Ink b)) [.str (e_Ink [false])] H Q := by
  obtain ⟨c, rfl⟩ := ifS e
  exact ⟨_, _, rfl, rfl, by rw [e_Ink_len]; exact sz (by omega), by rw [lst_ink b (mem4I b c)]; exact q⟩
theorem q_rstI {b z : Ink} (e : rstM b = some z) (q : Q (.str (e_Ink z)) H) : rRst (.str (e_Ink b)) [.str (e_Ink [false])] H Q := by
  obtain ⟨c, rfl⟩ := ifS e
  exact ⟨_, _, rfl, rfl, by rw [e_Ink_len]; exact sz (by omega), by rw [rst_ink b (mem4I b c)]; exact q⟩
theorem q_lenI {b : Ink} {n : Int} (e : lenI b = some n) (q : Q (.int n) H) : rLenS [.str (e_Ink b)] H Q := by
  obtain ⟨c, rfl⟩ := ifS e
  exact ⟨_, rfl, by rw [e_Ink_len]; exact sz c, by rw [e_Ink_len]; exact q⟩
theorem q_slI {b z : Ink} {lo hi : Option Int} (e : cutI b lo hi = some z) (q : Q (.str (e_Ink z)) H) : rSlS (.str (e_Ink b)) lo hi H Q := by
  obtain ⟨c, rfl⟩ := ifS e
  refine ⟨_, rfl, by rw [e_Ink_len]; exact sz c, ?_⟩
  have e1 : ∀ n d o, HT.sIx n d o = slIx n d o := fun n d o => by cases o <;> rfl
  have e2 : cutS (e_Ink b) lo hi = e_Ink (cutM b lo hi) := by
    unfold cutS cutM
    rw [e1, e1, e_Ink_len]
    unfold e_Ink
    simp [List.map_take, List.map_drop]
  rw [e2]; exact q
theorem q_ixI {b z : Ink} {i : Int} (e : getI b i = some z) (q : Q (.str (e_Ink z)) H) : rIxS (.str (e_Ink b)) (.int i) H Q := by
  unfold getI at e
  by_cases k : b.length ≤ 100000
  · rw [if_pos k] at e
    obtain ⟨x, e1, e2⟩ := bindS e
    cases e2
    refine ⟨_, i, if x then 35 else 46, rfl, rfl, by rw [e_Ink_len]; exact sz k, ?_, q⟩
    unfold getM at e1
    obtain ⟨j, e3, e4⟩ := bindS e1
    show (ixN (e_Ink b).cps.toList.length i).bind _ = _
    have el : (e_Ink b).cps.toList.length = b.length := by simp [e_Ink]
    rw [el, ← ix_eq, e3]
    show (e_Ink b).cps.toList[j]? = _
    simp [e_Ink, e4]
  · rw [if_neg k] at e; cases e
def rInS : R2 := fun x y H Q => ∃ (c : Nat) (z : Str), x = .str ⟨#[c]⟩ ∧ y = .str z ∧ Q (.bl (decide (c ∈ z.cps.toList))) H
def rNiS : R2 := fun x y H Q => ∃ (c : Nat) (z : Str), x = .str ⟨#[c]⟩ ∧ y = .str z ∧ Q (.bl (!decide (c ∈ z.cps.toList))) H
theorem op_inS : OpR X (compareOp .In) rInS := op_in_sign
theorem op_niS : OpR X (compareOp .NotIn) rNiS := op_notIn_sign
theorem q_inI {b : Ink} (q : Q (.bl (decide (true ∈ b))) H) : rInS (.str (e_Ink [true])) (.str (e_Ink b)) H Q := by
  refine ⟨35, e_Ink b, rfl, rfl, ?_⟩
  have : decide (35 ∈ (e_Ink b).cps.toList) = decide (true ∈ b) := by
    apply decide_eq_decide.mpr
    simp [e_Ink]
  rw [this]; exact q
theorem q_niI {b : Ink} (q : Q (.bl (!decide (true ∈ b))) H) : rNiS (.str (e_Ink [true])) (.str (e_Ink b)) H Q := by
  obtain ⟨c, z, h1, h2, h3⟩ := q_inI (b := b) (H := H) (Q := fun v H => ∃ k, v = V.bl k ∧ Q (.bl (!k)) H) ⟨_, rfl, q⟩
  obtain ⟨k, h4, h5⟩ := h3
  cases h4
  exact ⟨c, z, h1, h2, h5⟩
end
theorem glue_ink : ∀ (xs : List Ink) (acc : Ink), xs.foldl (fun (acc : Array Nat) p => acc ++ (e_Ink []).cps ++ (e_Ink p).cps) (e_Ink acc).cps = (e_Ink (acc ++ xs.flatten)).cps
  | [], acc => by simp
  | x :: xs, acc => by
    rw [List.foldl_cons]
    have e : (e_Ink acc).cps ++ (e_Ink []).cps ++ (e_Ink x).cps = (e_Ink (acc ++ x)).cps := by
      simp [e_Ink]
    rw [e, glue_ink xs (acc ++ x)]
    simp
theorem join_ink (xs : List Ink) : Txt.join (e_Ink []) (xs.map e_Ink) = e_Ink xs.flatten := by
  unfold Txt.join PySem.Builtin.Str.glued
  cases xs with
  | nil => rfl
  | cons x xs =>
    have := glue_ink xs x
    simp only [List.map_cons, List.drop_one, List.tail_cons, List.headD_cons, List.foldl_map, List.flatten_cons]
    rw [this]
theorem al_ink {G : Hp} : ∀ {vs : List V} {xs : List Ink}, Al (rEn e_Ink) G vs xs → vs = (xs.map e_Ink).map V.str
  | [], [], _ => rfl
  | v :: vs, x :: xs, h => by
    have h1 : v = V.str (e_Ink x) := h.1
    rw [h1, al_ink h.2]; rfl
  | [], _ :: _, h => h.elim
  | _ :: _, [], h => h.elim
theorem q_joinI {K : PySem.W.Frag} {G H : Hp} {O : Own} {v : V} {xs : List Ink} {z : Ink} {Q : VK} (S : Sub G O H) (h : (rM (rEn e_Ink)).rel G v xs) (e : joinI xs = some z) (q : Q (.str (e_Ink z)) H) : rJoin K (.str (e_Ink [])) [v] H Q := by
  obtain ⟨c, rfl⟩ := ifS e
  obtain ⟨p, vs, rfl, hp, ha⟩ := h
  have hv := al_ink ha
  subst hv
  refine ⟨_, p, xs.map e_Ink, rfl, rfl, .inl (sqL_up S.ext (.inl (.inl hp))), ?_, ?_⟩
  · have e1 : ((xs.map e_Ink).map (·.length)).sum = xs.flatten.length := by
      rw [List.length_flatten, List.map_map]
      congr 1
      apply List.map_congr_left
      intro a _
      exact e_Ink_len a
    rw [e1, e_Ink_len]
    show xs.flatten.length + (xs.map e_Ink).length * 0 ≤ _
    omega
  · rw [join_ink]; exact q
/-! ### None or an int -/
def dOI {K : PySem.W.Frag} : RD K (Option Int) := ⟨rO rInt, fun x => match x with
    | none => .none
    | some y => (dInt (K := K)).enc y, 2, fun _ => true,
  fun x h => by
    cases x with
    | none => rfl
    | some y => rfl,
  fun x => by
    cases x with
    | none => simp [PyData.depth]
    | some y => exact Nat.le_succ_of_le ((dInt (K := K)).dpt y),
  fun {H v x} h => by
    cases x with
    | none => cases (show v = .non from h); exact .non
    | some y => exact (dInt (K := K)).dp h.2,
  fun x y => by
    cases x with
    | none =>
      cases y with
      | none => rfl
      | some y => rfl
    | some x =>
      cases y with
      | none => rfl
      | some y =>
        show PyData.eqv ((dInt (K := K)).enc x) ((dInt (K := K)).enc y) = _
        rw [(dInt (K := K)).eqv]
        by_cases e : x = y
        · subst e; simp
        · simp [e]⟩
theorem okOI {K : PySem.W.Frag} : ∀ x, (dOI (K := K)).ok x = true := fun _ => rfl
end Mr

set_option Elab.async false
set_option linter.all false
set_option maxRecDepth 100000
set_option maxHeartbeats 2000000
/-! ZipG: zip of any two of lists, tuples, texts. -/
namespace Mr
open PySem PySem.Spec PyProof.Rows L2
/-- what is walked -/
inductive Sr where
  | list (a : Addr)
  | tup (a : Addr)
  | txt (x : Str)
namespace Sr
def v : Sr → V
  | .list a => .ref a
  | .tup a => .ref a
  | .txt x => .str x
def chs (x : Str) : List V := x.cps.toList.map fun c => .str ⟨#[c]⟩
def has (K : PySem.W.Frag) (H : Hp) (xs : List V) : Sr → Prop
  | .list a => SqL K H a xs
  | .tup a => SqT K H a xs
  | .txt x => xs = chs x
def cell : Sr → List Addr
  | .list a => [a]
  | .tup a => [a]
  | .txt _ => []
def obj (t : Tok) : Sr → Obj
  | .list a => { cls := .type "list_iterator", data := .fields #[.ref a, .int 0 0] }
  | .tup a => { cls := .type "tuple_iterator", data := .fields #[.ref a, .int 0 0] }
  | .txt x => { cls := .type (strIterType x), data := .fields #[.str x t, .int 0 0] }
def st (t : Tok) (it : Addr) (i : Nat) (h : Heap) : Sr → Prop
  | .list a => h.IsListIter it a i
  | .tup a => h.IsTupleIter it a i
  | .txt x => h.IsStrIter it (strIterType x) x t i
theorem has_up {K : PySem.W.Frag} {G H : Hp} {xs : List V} (e : Ext G H) : ∀ {r : Sr}, r.has K G xs → r.has K H xs
  | .list _, h => sqL_up e h
  | .tup _, h => sqT_up e h
  | .txt _, h => h
section
variable {X : Cx} {pins : List (Addr × Obj)} {σ : L2.St} {H : Hp} {s : Shared} {h h' : Heap} {r : Sr} {xs ys : List V} {t : Tok} {it : Addr} {i : Nat}
theorem has_inj (I : Inv X pins σ H s) (h1 : r.has X.K H xs) (h2 : r.has X.K H ys) : xs = ys := by
  cases r with
  | list a => exact I.list_inj h1 h2
  | tup a => exact I.tuple_inj h1 h2
  | txt x => exact (show xs = chs x from h1).trans (show ys = chs x from h2).symm
theorem st_obj (h1 : r.st t it i h) : ∃ o, h.get? it = some o ∧ ∀ v, o.data ≠ .cell v := by
  cases r with
  | list a => obtain ⟨o, e, _, d⟩ := h1; exact ⟨o, e, fun v z => by rw [d] at z; cases z⟩
  | tup a => obtain ⟨o, e, _, d⟩ := h1; exact ⟨o, e, fun v z => by rw [d] at z; cases z⟩
  | txt x => obtain ⟨o, e, _, d⟩ := h1; exact ⟨o, e, fun v z => by rw [d] at z; cases z⟩
theorem st_at (h1 : r.st t it i h) (k : ∀ o, h.get? it = some o → h'.get? it = some o) : r.st t it i h' := by
  cases r with
  | list a => exact Heap.IsListIter.at h1 k
  | tup a => exact Heap.IsTupleIter.at h1 k
  | txt x => obtain ⟨o, e, q⟩ := h1; exact ⟨o, k o e, q⟩
theorem st_new (h1 : h.get? it = some (r.obj t)) : r.st t it 0 h := by
  cases r with
  | list a => exact ⟨_, h1, rfl, rfl⟩
  | tup a => exact ⟨_, h1, rfl, rfl⟩
  | txt x => exact ⟨_, h1, rfl, rfl⟩
theorem vals_at {its : List Value} (rv : Vals xs its) {v : Value} (hv : its[i]? = some v) : ∃ x, xs[i]? = some x ∧ RelV x v := by
  have hl := rv.length
  have hi : i < its.length := (List.getElem?_eq_some_iff.mp hv).1
  have hx : xs[i]? = some (xs[i]'(by omega)) := List.getElem?_eq_getElem (by omega)
  obtain ⟨u, e1, e2⟩ := rv.get hx
  rw [hv] at e1
  cases e1
  exact ⟨_, hx, e2⟩
/-- what its iterator draws -/
theorem draws (I : Inv X pins σ H s) {A : Around} (hh : A.handled = none) (hq : r.has X.K H xs) (t : Tok) (hne : ∀ c ∈ r.cell, c ≠ it) :
    ∃ (P : Nat → Value → Prop) (St : Nat → Heap → Prop), Draws X.prog X.w A it (it :: r.cell) xs.length P St ∧ (∀ i h, St i h → r.st t it i h) ∧ (∀ i, r.st t it i s.heap → St i s.heap) ∧
      ∀ i v, P i v → ∃ x, xs[i]? = some x ∧ RelV x v := by
  cases r with
  | list a =>
    obtain ⟨its, rv, p, hz⟩ := I.list hq
    have D := Draws.list (prog := X.prog) (w := X.w) hh it a (hne a (List.mem_cons_self ..)) its.toArray
    have e : its.toArray.size = xs.length := by rw [List.size_toArray]; exact rv.length.symm
    rw [e] at D
    exact ⟨_, _, D, fun i h q => q.1, fun i q => ⟨q, p.isList⟩, fun i v q => vals_at rv (by simpa using q)⟩
  | tup a =>
    obtain ⟨its, rv, p, hz⟩ := I.tuple hq
    have D := Draws.tuple (prog := X.prog) (w := X.w) hh it a (hne a (List.mem_cons_self ..)) its.toArray
    have e : its.toArray.size = xs.length := by rw [List.size_toArray]; exact rv.length.symm
    rw [e] at D
    exact ⟨_, _, D, fun i h q => q.1, fun i q => ⟨q, p⟩, fun i v q => vals_at rv (by simpa using q)⟩
  | txt x =>
    have D := Draws.text (prog := X.prog) (w := X.w) hh it x t
    have hq : xs = chs x := hq
    subst hq
    have e : x.cps.size = (chs x).length := by simp [chs]
    rw [e] at D
    refine ⟨_, _, D, fun i h q => q, fun i q => q, fun i v q => ?_⟩
    obtain ⟨c, u, hc, rfl⟩ := q
    exact ⟨.str ⟨#[c]⟩, by simp [chs, hc], u, rfl⟩
/-- its iterator is made -/
theorem begins (I : Inv X pins σ H s) (hq : r.has X.K H xs) {u : Value} (ru : RelV r.v u) : ∃ (t : Tok) (P : Heap → Prop), Begins u (r.obj t) P ∧ P s.heap ∧ ∀ c ∈ r.cell, c < s.heap.objs.size := by
  cases r with
  | list a =>
    obtain ⟨its, rv, p, hz⟩ := I.list hq
    cases (show u = .ref a from ru)
    exact ⟨0, _, begins_list a its.toArray, p.isList, fun c hc => by
      obtain rfl := List.mem_singleton.mp hc
      exact p.lt⟩
  | tup a =>
    obtain ⟨its, rv, p, hz⟩ := I.tuple hq
    cases (show u = .ref a from ru)
    exact ⟨0, _, begins_tuple a its.toArray, p, fun c hc => by
      obtain rfl := List.mem_singleton.mp hc
      exact p.lt⟩
  | txt x =>
    obtain ⟨t, rfl⟩ := ru
    exact ⟨t, _, begins_text x t, True.intro, fun c hc => by cases hc⟩
end
end Sr
/-- the items of both at each turn, in new pairs -/
def Itzg (K : PySem.W.Frag) (r1 r2 : Sr) : It :=
  ⟨fun i H => ∃ (xs ys : List V) (x y : V), r1.has K H xs ∧ r2.has K H ys ∧ xs[i]? = some x ∧ ys[i]? = some y,
    fun i H v H' => ∃ T x y, v = .ref T ∧ H T = none ∧ H' = upd H T (.tup [x, y]) ∧ (∀ xs, r1.has K H xs → xs[i]? = some x) ∧ ∀ ys, r2.has K H ys → ys[i]? = some y,
    fun i H => ∃ xs ys : List V, r1.has K H xs ∧ r2.has K H ys ∧ i ≤ xs.length ∧ i ≤ ys.length ∧ (i = xs.length ∨ i = ys.length)⟩
theorem turn_zipG {P : Program} {w : World} {K : PySem.W.Frag} {elts : List Expr} {kk : Nat} {tpos : Pos} {r1 r2 : Sr} {z TI TO i1 i2 : Addr} {t1 t2 : Tok} (S : ZipSep2 z TI TO i1 i2 (i1 :: r1.cell) (i2 :: r2.cell)) (n1 : ∀ c ∈ r1.cell, c ≠ i1) (n2 : ∀ c ∈ r2.cell, c ≠ i2) :
    Turn P w K (.Tuple elts kk tpos) (Itzg K r1 r2) [z, TI, TO, i1, i2] z (fun i h => IsZip h z TI TO .none ∧ IsTupOf2 h TI (.ref i1) (.ref i2) ∧ (∃ x y, IsTupOf2 h TO x y) ∧ r1.st t1 i1 i h ∧ r2.st t2 i2 i h) where
  mem := by simp
  obj := fun i h st c hc => by
    obtain ⟨hz, hTI, ⟨x, y, hTO⟩, s1, s2⟩ := st
    have e' : c = z ∨ c = TI ∨ c = TO ∨ c = i1 ∨ c = i2 := by simpa using hc
    rcases e' with q | q | q | q | q
    · rw [q]; exact ⟨_, hz, fun v q => nomatch q⟩
    · rw [q]; exact ⟨_, hTI, fun v q => nomatch q⟩
    · rw [q]; exact ⟨_, hTO, fun v q => nomatch q⟩
    · rw [q]; exact Sr.st_obj s1
    · rw [q]; exact Sr.st_obj s2
  keep := fun i h h' st k => by
    obtain ⟨hz, hTI, ⟨x, y, hTO⟩, h1, h2⟩ := st
    exact ⟨k z (by simp) _ hz, k TI (by simp) _ hTI, ⟨x, y, k TO (by simp) _ hTO⟩, Sr.st_at h1 fun o q => k i1 (by simp) o q, Sr.st_at h2 fun o q => k i2 (by simp) o q⟩
  item := by
    intro X hP hw hK hc i pins s σ H E I hf st hg
    subst hP hw hK
    obtain ⟨hz, hTI, ⟨x0, y0, hTO⟩, h1, h2⟩ := st
    obtain ⟨xs, ys, x, y, hqx, hqy, hx, hy⟩ := hg
    have hh : X.A.in1.handled = none := I.ok.hd hc
    obtain ⟨P1, St1, D1, a1, b1, c1⟩ := Sr.draws I hh hqx t1 n1
    obtain ⟨P2, St2, D2, a2, b2, c2⟩ := Sr.draws I hh hqy t2 n2
    have hzl : z < s.heap.objs.size := Heap.lt_size hz
    have l1 : i < xs.length := (List.getElem?_eq_some_iff.mp hx).1
    have l2 : i < ys.length := (List.getElem?_eq_some_iff.mp hy).1
    refine wpAny_pyNext_zipD2_item S D1 D2 hz hTI hTO (b1 i h1) (b2 i h2) l1 l2 fun u u2 h' tk p1 p2 z' TO' st1' st2' hT hsz hk => ?_
    obtain ⟨x', e1, ru⟩ := c1 i u p1
    obtain ⟨y', e2, ru2⟩ := c2 i u2 p2
    rw [hx] at e1
    cases e1
    rw [hy] at e2
    cases e2
    refine ⟨_, rfl, wpAny_letOwnedTupleGo_zip (s := { s with heap := h', toks := tk }) z' fun h'' z'' sb => ?_⟩
    have hT2 : h''.get? s.heap.objs.size = some { cls := .type "tuple", data := .seq #[u, u2] } := (sb.2 _ (Nat.ne_of_gt hzl)).trans hT
    have new : ObjOk X.prog X.w (upd H s.heap.objs.size (.tup [x, y])) h'' s.heap.objs.size (.tup [x, y]) :=
      ⟨by show 2 ≤ sizeLine; decide, [u, u2], .cons ru (.cons ru2 .nil), ⟨_, hT2, rfl, _, rfl⟩⟩
    have I1 : Inv X pins σ (upd H s.heap.objs.size (.tup [x, y])) { s with heap := h'', toks := tk } :=
      I.turnedNew (t' := tk) (ch := [z, TI, TO, i1, i2]) (fun c o hb q => (sb.2 c (fun q' => hb (by simp [q']))).trans (hk c o (fun q' => hb (by simp [q'])) (fun q' => hb (by simp [q'])) (fun q' => hb (by simp [q'])) (fun q' => hb (by simp [q'])) q)) hf (Nat.le_refl _) new
    refine ⟨.ref s.heap.objs.size, _, I1, rfl, ⟨_, x, y, rfl, I.hok.fresh (Nat.le_refl _), rfl, fun l hl => by rw [Sr.has_inj I hl hqx]; exact hx, fun l hl => by rw [Sr.has_inj I hl hqy]; exact hy⟩, ⟨z'', ?_, ⟨u, u2, ?_⟩, ?_, ?_⟩, fun c hcm => ?_⟩
    · exact (sb.2 _ S.TIz).trans (hk _ _ S.TIz S.TITO S.TIi1 S.TIi2 hTI)
    · exact (sb.2 _ S.TOz).trans TO'
    · exact Sr.st_at (a1 _ _ st1') fun o q => (sb.2 _ S.zi1.symm).trans q
    · exact Sr.st_at (a2 _ _ st2') fun o q => (sb.2 _ S.zi2.symm).trans q
    · have hlt : c < s.heap.objs.size := by
        have e' : c = z ∨ c = TI ∨ c = TO ∨ c = i1 ∨ c = i2 := by simpa using hcm
        rcases e' with q | q | q | q | q
        · rw [q]; exact hzl
        · rw [q]; exact Heap.lt_size hTI
        · rw [q]; exact Heap.lt_size hTO
        · rw [q]; obtain ⟨_, e1, _⟩ := Sr.st_obj h1; exact Heap.lt_size e1
        · rw [q]; obtain ⟨_, e2, _⟩ := Sr.st_obj h2; exact Heap.lt_size e2
      rw [upd_ne (Nat.ne_of_lt hlt)]
      exact (hf c hcm).1
  done := by
    intro X hP hw hK hc i pins s σ H E I hf st hg
    subst hP hw hK
    obtain ⟨hz, hTI, ⟨x0, y0, hTO⟩, h1, h2⟩ := st
    obtain ⟨xs, ys, hqx, hqy, le1, le2, hend⟩ := hg
    have hh : X.A.in1.handled = none := I.ok.hd hc
    obtain ⟨P1, St1, D1, a1, b1, c1⟩ := Sr.draws I hh hqx t1 n1
    obtain ⟨P2, St2, D2, a2, b2, c2⟩ := Sr.draws I hh hqy t2 n2
    exact wpAny_pyNext_zipD2_end S D1 D2 hz hTI hTO (b1 i h1) (b2 i h2) le1 le2 hend fun h' tk hk => ⟨rfl, I.turnedL (t' := tk) (ch := [z, TI, TO, i1, i2]) (fun c o hb q =>
      hk c o (fun q' => hb (by simp [q'])) (fun q' => hb (by simp [q'])) (fun q' => hb (by simp [q'])) (fun q' => hb (by simp [q'])) q) hf⟩
  self := fun A i s Q E st h => wpAny_pyIter_zip st.1 h
def iZipG (K : PySem.W.Frag) (ta : TA) : TI := fun σ H R => ta σ H fun vs H1 => ∃ r1 r2 xs ys, vs = [Sr.v r1, Sr.v r2] ∧ r1.has K H1 xs ∧ r2.has K H1 ys ∧ R (Itzg K r1 r2) H1
theorem pi_zipG {X : Cx} {e e2 : Expr} {ta : TA} {p pos tpos : Pos} {elts : List Expr} {kk : Nat} (hg : Gl X "zip") (hm : X.mg "zip" = none) (ha : PA X [e, e2] ta)
    (hs : starEach [e, e2] X.env = (false, eval e X.env) :: starEach [e2] X.env := by rfl) (hpl : (backTo pos (starEach [e2] X.env)).any (·.1) = false := by rfl) :
    PI X (.Tuple elts kk tpos) (.Call (.Name "zip" p) [e, e2] [] pos) (iZipG X.K ta) := by
  refine ⟨fun pins s σ H R I h => ?_⟩
  refine Call_ (ld_blt I hg hm PyProof.Rows.boot_zip (PyProof.Rows.callWith_type1 (thn (ha.run pos pins s σ H _ I h) fun us s1 ⟨vs, H1, I1, r1, q1⟩ => ?_) hs hpl))
  obtain ⟨a, b, xs, ys, ex, hqx, hqy, q⟩ := q1
  subst ex
  cases r1 with
  | cons r rr =>
    cases rr with
    | cons r' rr =>
      cases rr
      obtain ⟨t1, P1, B1, k1, la⟩ := Sr.begins I1 hqx r
      obtain ⟨t2, P2, B2, k2, lb⟩ := Sr.begins I1 hqy r'
      refine zip_begins2 B1 B2 k1 k2 fun h' hz hTI hTO h1 h2 hsz hk => wpAny_pyIter_zip hz ?_
      have I2 : Inv X pins σ H1 { s1 with heap := h' } := I1.kept (t' := s1.toks) hk
      have S : ZipSep2 (s1.heap.objs.size + 4) (s1.heap.objs.size + 2) (s1.heap.objs.size + 3) s1.heap.objs.size (s1.heap.objs.size + 1) (s1.heap.objs.size :: a.cell) ((s1.heap.objs.size + 1) :: b.cell) := by
        generalize s1.heap.objs.size = n at la lb ⊢
        have ne : ∀ x y : Nat, x ≠ y → (x : Addr) ≠ y := fun _ _ h => h
        have f1 : ∀ c, n ≤ c → c ∉ a.cell := fun c hc hm => absurd (la c hm) (Nat.not_lt.mpr hc)
        have f2 : ∀ c, n ≤ c → c ∉ b.cell := fun c hc hm => absurd (lb c hm) (Nat.not_lt.mpr hc)
        have nm : ∀ (c d : Nat) (l : List Addr), c ≠ d → c ∉ l → c ∉ d :: l := fun c d l h1 h2 hm => (List.mem_cons.mp hm).elim h1 h2
        exact ⟨ne _ _ (by omega), ne _ _ (by omega), ne _ _ (by omega), ne _ _ (by omega), List.mem_cons_self .., nm _ _ _ (by omega) (f1 _ (by omega)), nm _ _ _ (by omega) (f1 _ (by omega)), ne _ _ (by omega), List.mem_cons_self ..,
          nm _ _ _ (by omega) (f2 _ (by omega)), nm _ _ _ (by omega) (f2 _ (by omega)), nm _ _ _ (by omega) (f2 _ (by omega)), nm _ _ _ (by omega) (f1 _ (by omega))⟩
      refine ⟨s1.heap.objs.size + 4, [s1.heap.objs.size + 4, s1.heap.objs.size + 2, s1.heap.objs.size + 3, s1.heap.objs.size, s1.heap.objs.size + 1], _, _, H1, rfl, I2, turn_zipG (t1 := t1) (t2 := t2) S (fun c hc => Nat.ne_of_lt (la c hc)) (fun c hc => Nat.ne_of_lt (Nat.lt_succ_of_lt (lb c hc))), ⟨hz, hTI, ⟨_, _, hTO⟩, Sr.st_new h1, Sr.st_new h2⟩, fun c hcm => ?_, q⟩
      have e' : c = s1.heap.objs.size + 4 ∨ c = s1.heap.objs.size + 2 ∨ c = s1.heap.objs.size + 3 ∨ c = s1.heap.objs.size ∨ c = s1.heap.objs.size + 1 := by simpa using hcm
      have hle : s1.heap.objs.size ≤ c := by
        rcases e' with z | z | z | z | z
        · rw [z]; exact Nat.le_add_right _ _
        · rw [z]; exact Nat.le_add_right _ _
        · rw [z]; exact Nat.le_add_right _ _
        · rw [z]; exact Nat.le_refl _
        · rw [z]; exact Nat.le_add_right _ _
      exact I1.fpOk hle (I1.hok.fresh hle)
/-! ### in worlds -/
theorem walk_zipG {K : PySem.W.Frag} {r1 r2 : Sr} {xs ys : List V} : Walk (Itzg K r1 r2) (min xs.length ys.length) (fun H => r1.has K H xs ∧ r2.has K H ys) (YPair (fun i => xs[i]?) (fun i => ys[i]?)) := by
  refine ⟨fun i _ hi q => ⟨xs, ys, xs[i]'(by omega), ys[i]'(by omega), q.1, q.2, List.getElem?_eq_getElem (by omega), List.getElem?_eq_getElem (by omega)⟩, fun _ q => ⟨xs, ys, q.1, q.2, by omega, by omega, by omega⟩, fun i H v H' _ q y => ?_⟩
  obtain ⟨T, x, y, h1, h2, h3, h4, h5⟩ := y
  exact ⟨T, x, y, h1, h2, h3, h4 xs q.1, h5 ys q.2⟩
/-- what a value is a source of -/
def SrR {α : Type} (K : PySem.W.Frag) (r : R α) (G : Hp) (v : V) (xs : List α) : Prop := ∃ (s : Sr) (vs : List V), v = s.v ∧ s.has K G vs ∧ Al r G vs xs
section
variable {α β τ ρ : Type} {K : PySem.W.Frag} {r : R α} {r' : R β} {G H : Hp} {O : Own} {v v' : V} {xs : List α} {ys : List β}
theorem SrR.ofL (h : (rL K r).rel G v xs) : SrR K r G v xs := let ⟨p, vs, e, hs, ha⟩ := h; ⟨.list p, vs, e, hs, ha⟩
theorem SrR.ofT (h : (rT K r).rel G v xs) : SrR K r G v xs := let ⟨p, vs, e, hs, ha⟩ := h; ⟨.tup p, vs, e, hs, ha⟩
theorem zip_at {i : Nat} {p : α × β} (h : (xs.zip ys)[i]? = some p) : xs[i]? = some p.1 ∧ ys[i]? = some p.2 := by
  rw [List.getElem?_zip_eq_some] at h
  exact h
def itZp (K : PySem.W.Frag) (vs : List V) (H : Hp) (RI : It → Hp → Prop) : Prop := ∃ r1 r2 xs ys, vs = [Sr.v r1, Sr.v r2] ∧ r1.has K H xs ∧ r2.has K H ys ∧ RI (Itzg K r1 r2) H
theorem gIZp {ta : TA} {σ : L2.St} {RI : It → Hp → Prop} (h : ta σ H fun vs H1 => itZp K vs H1 RI) : iZipG K ta σ H RI := h
theorem lp_Zp {f : τ → α × β → Option (Bf τ ρ)} {s0 : τ} {res : Fl τ ρ} {i1 i2 : Nat} {tb : TS} {D : Ends} {σ : L2.St} (S : Sub G O H) (h : SrR K r G v xs) (h' : SrR K r' G v' ys) (hm : forL f (xs.zip ys) s0 = some res) (I : τ → L2.St → Hp → Prop) (h0 : I s0 σ H) (hG : ∀ s σ H, I s σ H → Ext G H)
    (hs : ∀ (i : Nat) (x : α) (y : β) (s : τ) (b : Bf τ ρ), f s (x, y) = some b → conL f ((xs.zip ys).drop (i + 1)) b = some res → ∀ w w2 σ H H', I s σ H → (∀ G O, Sub G O H → Sub G O H') → r.rel G w x → r'.rel G w2 y →
      tb { D with nx := PvL f (xs.zip ys) res I (i + 1), ct := PvL f (xs.zip ys) res I (i + 1), bk := D.nx } ((σ.set i1 (some w)).set i2 (some w2)) H')
    (hd : ∀ s σ H, res = .nx s → I s σ H → D.nx σ H) :
    itZp K [v, v'] H (LpW (gTup K 2 (gCons (gName i1) (gCons (gName i2) gNil))) tb D σ) := by
  obtain ⟨s1, vs, rfl, q1, al1⟩ := h
  obtain ⟨s2, vs2, rfl, q2, al2⟩ := h'
  refine ⟨s1, s2, vs, vs2, rfl, Sr.has_up S.ext q1, Sr.has_up S.ext q2, lp_it walk_zipG (by rw [List.length_zip, al1.len, al2.len]) hm I h0 (fun s σ H hI => ⟨Sr.has_up (hG s σ H hI) q1, Sr.has_up (hG s σ H hI) q2⟩) (fun i p s b hx hb hr w σ H H' hI hY => ?_) hd⟩
  obtain ⟨T, w1, w2, rfl, hT, rfl, e1, e2⟩ := hY
  obtain ⟨k1, k2⟩ := zip_at hx
  exact ⟨T, _, rfl, .inl (.inl upd_same), rfl, _, _, rfl, _, _, rfl, rfl, hs i p.1 p.2 s b hb hr w1 w2 σ H _ hI (fun G O S => S.junk hT) (al1.at k1 e1) (al2.at k2 e2)⟩
theorem lc_Zp {f : τ → α × β → Option τ} {s0 s1' : τ} {i1 i2 : Nat} {tt : TT} {te : TE} {ws : List Nat} {σ : L2.St} {Q : VK} (S : Sub G O H) (h : SrR K r G v xs) (h' : SrR K r' G v' ys) (hm : folM f (xs.zip ys) s0 = some s1') (I : Addr → τ → Hp → Prop) (h0 : ∀ D, H D = none → I D s0 (upd H D (.lst []))) (hG : ∀ D s H, I D s H → Ext G H)
    (hs : ∀ (D : Addr) (i : Nat) (x : α) (y : β) (s s' : τ), f s (x, y) = some s' → folM f ((xs.zip ys).drop (i + 1)) s' = some s1' → ∀ w w2 H H', I D s H → (∀ G O, Sub G O H → Sub G O H') → r.rel G w x → r'.rel G w2 y →
      lcTurn tt te ws σ D (PvF f (xs.zip ys) s1' (I D) (i + 1)) (((wipe σ ws).set i1 (some w)).set i2 (some w2)) H')
    (hd : ∀ D H, I D s1' H → Q (.ref D) H) : itZp K [v, v'] H (LcW (gTup K 2 (gCons (gName i1) (gCons (gName i2) gNil))) tt te ws σ Q) := by
  obtain ⟨s1, vs, rfl, q1, al1⟩ := h
  obtain ⟨s2, vs2, rfl, q2, al2⟩ := h'
  refine ⟨s1, s2, vs, vs2, rfl, Sr.has_up S.ext q1, Sr.has_up S.ext q2, lc_fol walk_zipG (by rw [List.length_zip, al1.len, al2.len]) hm I h0 (fun D s H hI => ⟨Sr.has_up (hG D s H hI) q1, Sr.has_up (hG D s H hI) q2⟩) (fun D i p s s' hx hb hr v H H' hI hY => ?_) hd⟩
  obtain ⟨T, w1, w2, rfl, hT, rfl, e1, e2⟩ := hY
  obtain ⟨k1, k2⟩ := zip_at hx
  exact ⟨T, _, rfl, .inl (.inl upd_same), rfl, _, _, rfl, _, _, rfl, rfl, hs D i p.1 p.2 s s' hb hr w1 w2 H _ hI (fun G O S => S.junk hT) (al1.at k1 e1) (al2.at k2 e2)⟩
end
end Mr

set_option linter.all false
/-! TxtP: texts as lists of signs. -/
namespace Mr
abbrev Wrd := List Nat
def e_T (l : Wrd) : PySem.Str := ⟨l.toArray⟩
def catT (a b : Wrd) : Option Wrd := if a.length + b.length ≤ 100000 then some (a ++ b) else none
def lenT (a : Wrd) : Option Int := if a.length ≤ 100000 then some (a.length : Int) else none
def getT (a : Wrd) (i : Int) : Option Wrd := if a.length ≤ 100000 then (getM a i).bind fun c => some [c] else none
def cutT (a : Wrd) (lo hi : Option Int) : Option Wrd := if a.length ≤ 100000 then some (cutM a lo hi) else none
/-- a single sign in a text -/
def inT (a b : Wrd) : Option Bool := match a with
  | [c] => some (decide (c ∈ b))
  | _ => none
/-- the place of a sign in "abcd" -/
def abcd : Wrd := [97, 98, 99, 100]
def idxA (b a : Wrd) : Option Int := if b = abcd then (if a = [97] then some 0 else if a = [98] then some 1 else if a = [99] then some 2 else if a = [100] then some 3 else none) else none
def lsTx (a : Wrd) : Option (List Wrd) := if a.length ≤ 100000 then some (a.map fun c => [c]) else none
def sgT (a : Wrd) : List Wrd := a.map fun c => [c]
/-- text * number -/
def mulT (a : Wrd) (k : Int) : Option Wrd := if 2 ≤ k ∧ k ≤ 1000 ∧ a ≠ [] ∧ a.length ≤ 1000 then some (List.replicate k.toNat a).flatten else none
end Mr

set_option Elab.async false
set_option linter.all false
set_option maxRecDepth 100000
set_option maxHeartbeats 2000000
/-! MirTx: texts as lists of signs. -/
namespace Mr
open PySem PySem.Spec PyProof.Rows L2
theorem e_T_inj : ∀ x y, e_T x = e_T y → x = y := fun x y h => by
  unfold e_T at h
  injection h with h
  simpa using congrArg Array.toList h
theorem e_T_len (l : Wrd) : (e_T l).length = l.length := by simp [e_T, Str.length]
abbrev rTx : R Wrd := rSc fun x => V.str (e_T x)
theorem e_T_one (c : Nat) : e_T [c] = ⟨#[c]⟩ := rfl
theorem pe_strT {X : Cx} {x : Str} {l : Wrd} {j : Nat} {pos : Pos} (h : x = e_T l) : PE X (.Constant (.str x) j pos) (tC (.str (e_T l))) := h ▸ pe_str
section
variable {X : Cx} {σ : L2.St} {H : Hp} {Q : VK} {K : PySem.W.Frag}
def rAddT : R2 := fun x y H Q => ∃ i j, x = .str i ∧ y = .str j ∧ i.length + j.length ≤ sizeLine ∧ Q (.str (i ++ j)) H
theorem op_addT : OpR X (binaryOp .Add) rAddT := op_add_str
theorem q_catT {a b z : Wrd} (e : catT a b = some z) (q : Q (.str (e_T z)) H) : rAddT (.str (e_T a)) (.str (e_T b)) H Q := by
  obtain ⟨c, rfl⟩ := ifS e
  refine ⟨_, _, rfl, rfl, by rw [e_T_len, e_T_len]; exact sz c, ?_⟩
  have : e_T a ++ e_T b = e_T (a ++ b) := by
    show (⟨_⟩ : Str) = ⟨_⟩
    congr 1
    simp [e_T]
  rw [this]; exact q
theorem q_lenT' {a : Wrd} {n : Int} (e : lenT a = some n) (q : Q (.int n) H) : rLenS [.str (e_T a)] H Q := by
  obtain ⟨c, rfl⟩ := ifS e
  exact ⟨_, rfl, by rw [e_T_len]; exact sz c, by rw [e_T_len]; exact q⟩
theorem q_slT {b z : Wrd} {lo hi : Option Int} (e : cutT b lo hi = some z) (q : Q (.str (e_T z)) H) : rSlS (.str (e_T b)) lo hi H Q := by
  obtain ⟨c, rfl⟩ := ifS e
  refine ⟨_, rfl, by rw [e_T_len]; exact sz c, ?_⟩
  have e1 : ∀ n d o, HT.sIx n d o = slIx n d o := fun n d o => by cases o <;> rfl
  have e2 : cutS (e_T b) lo hi = e_T (cutM b lo hi) := by
    unfold cutS cutM
    rw [e1, e1, e_T_len]
    unfold e_T
    simp
  rw [e2]; exact q
theorem q_ixTx {b z : Wrd} {i : Int} (e : getT b i = some z) (q : Q (.str (e_T z)) H) : rIxS (.str (e_T b)) (.int i) H Q := by
  unfold getT at e
  by_cases k : b.length ≤ 100000
  · rw [if_pos k] at e
    obtain ⟨x, e1, e2⟩ := bindS e
    cases e2
    refine ⟨_, i, x, rfl, rfl, by rw [e_T_len]; exact sz k, ?_, q⟩
    unfold getM at e1
    obtain ⟨j, e3, e4⟩ := bindS e1
    show (ixN (e_T b).cps.toList.length i).bind _ = _
    have el : (e_T b).cps.toList.length = b.length := by simp [e_T]
    rw [el, ← ix_eq, e3]
    show (e_T b).cps.toList[j]? = _
    simp [e_T, e4]
  · rw [if_neg k] at e; cases e
theorem inT_some {a b : Wrd} {k : Bool} (e : inT a b = some k) : ∃ c, a = [c] ∧ k = decide (c ∈ b) := by
  unfold inT at e
  split at e
  · rename_i c; exact ⟨c, rfl, (Option.some.inj e).symm⟩
  · cases e
theorem q_inTx {a b : Wrd} {k : Bool} (e : inT a b = some k) (q : Q (.bl k) H) : rInS (.str (e_T a)) (.str (e_T b)) H Q := by
  obtain ⟨c, rfl, rfl⟩ := inT_some e
  refine ⟨c, e_T b, rfl, rfl, ?_⟩
  have : decide (c ∈ (e_T b).cps.toList) = decide (c ∈ b) := by
    apply decide_eq_decide.mpr
    simp [e_T]
  rw [this]; exact q
theorem q_niTx {a b : Wrd} {k : Bool} (e : inT a b = some k) (q : Q (.bl (!k)) H) : rNiS (.str (e_T a)) (.str (e_T b)) H Q := by
  obtain ⟨c, rfl, rfl⟩ := inT_some e
  refine ⟨c, e_T b, rfl, rfl, ?_⟩
  have : decide (c ∈ (e_T b).cps.toList) = decide (c ∈ b) := by
    apply decide_eq_decide.mpr
    simp [e_T]
  rw [this]; exact q
/-! index in "abcd" -/
def rSidx : V → List V → Hp → VK → Prop := fun x xs H Q => ∃ a b i rest, x = .str a ∧ xs = [.str b] ∧ Builtin.Str.occurrences a b 0 a.length 1 = i :: rest ∧ Q (.int (i : Nat)) H
theorem mt_sidx : MtR X "str.index" rSidx := mt_sindex
theorem occ_a : Builtin.Str.occurrences (e_T abcd) (e_T [97]) 0 (e_T abcd).length 1 = [0] := by decide +kernel
theorem occ_b : Builtin.Str.occurrences (e_T abcd) (e_T [98]) 0 (e_T abcd).length 1 = [1] := by decide +kernel
theorem occ_c : Builtin.Str.occurrences (e_T abcd) (e_T [99]) 0 (e_T abcd).length 1 = [2] := by decide +kernel
theorem occ_d : Builtin.Str.occurrences (e_T abcd) (e_T [100]) 0 (e_T abcd).length 1 = [3] := by decide +kernel
theorem q_idxA {b a : Wrd} {i : Int} (e : idxA b a = some i) (q : Q (.int i) H) : rSidx (.str (e_T b)) [.str (e_T a)] H Q := by
  unfold idxA at e
  split at e
  · rename_i hb
    subst hb
    split at e
    · rename_i h; subst h; cases e; exact ⟨_, _, 0, [], rfl, rfl, occ_a, q⟩
    · split at e
      · rename_i h; subst h; cases e; exact ⟨_, _, 1, [], rfl, rfl, occ_b, q⟩
      · split at e
        · rename_i h; subst h; cases e; exact ⟨_, _, 2, [], rfl, rfl, occ_c, q⟩
        · split at e
          · rename_i h; subst h; cases e; exact ⟨_, _, 3, [], rfl, rfl, occ_d, q⟩
          · cases e
  · cases e
/-! == -/
theorem op_eqT : OpR X (compareOp .Eq) (fun x y H Q => ∃ a b : Wrd, x = .str (e_T a) ∧ y = .str (e_T b) ∧ Q (.bl (decide (a = b))) H) := fun pins s σ H x y v u Q I rx ry h => by
  obtain ⟨a, b, rfl, rfl, q⟩ := h
  refine op_eqS pins s σ H _ _ v u Q I rx ry ⟨_, _, rfl, rfl, ?_⟩
  have : decide (e_T a = e_T b) = decide (a = b) := decide_eq_decide.mpr ⟨e_T_inj a b, fun h => by rw [h]⟩
  show Q (.bl (decide (e_T a = e_T b))) H
  rw [this]; exact q
theorem op_neT : OpR X (compareOp .NotEq) (fun x y H Q => ∃ a b : Wrd, x = .str (e_T a) ∧ y = .str (e_T b) ∧ Q (.bl (!decide (a = b))) H) := fun pins s σ H x y v u Q I rx ry h => by
  obtain ⟨a, b, rfl, rfl, q⟩ := h
  refine op_neS pins s σ H _ _ v u Q I rx ry ⟨_, _, rfl, rfl, ?_⟩
  have : decide (e_T a = e_T b) = decide (a = b) := decide_eq_decide.mpr ⟨e_T_inj a b, fun h => by rw [h]⟩
  show Q (.bl (!decide (e_T a = e_T b))) H
  rw [this]; exact q
end
/-! the signs of a text, walked -/
theorem sg_al {G : Hp} : ∀ l : Wrd, Al rTx G (l.map fun c => V.str ⟨#[c]⟩) (sgT l)
  | [] => True.intro
  | c :: l => ⟨rfl, sg_al l⟩
theorem SrR.ofTx {K : PySem.W.Frag} {G : Hp} (l : Wrd) : SrR K rTx G (V.str (e_T l)) (sgT l) := ⟨.txt (e_T l), l.map fun c => V.str ⟨#[c]⟩, rfl, by
  show _ = Sr.chs (e_T l)
  simp [Sr.chs, e_T], sg_al l⟩
def itS (x : V) (H : Hp) (RI : It → Hp → Prop) : Prop := ∃ z, x = .str z ∧ RI (Its z) H
theorem gIS {te : TE} {σ : L2.St} {H : Hp} {RI : It → Hp → Prop} (h : te σ H fun x H1 => itS x H1 RI) : iStr te σ H RI := h
section
variable {τ ρ : Type} {G H : Hp} {O : Own} {l : Wrd} {s0 : τ} {σ : L2.St} {g : TG}
theorem sg_at {l : Wrd} {i : Nat} {x : Wrd} {c : Nat} (h : (sgT l)[i]? = some x) (h2 : (e_T l).cps[i]? = some c) : x = [c] := by
  unfold sgT at h
  rw [List.getElem?_map] at h
  obtain ⟨d, h3, h4⟩ := Option.map_eq_some_iff.mp h
  have : l[i]? = some c := by simpa [e_T] using h2
  rw [this] at h3
  cases h3
  exact h4.symm
theorem lp_S {f : τ → Wrd → Option (Bf τ ρ)} {res : Fl τ ρ} {tb : TS} {D : Ends} (hm : forL f (sgT l) s0 = some res) (I : τ → L2.St → Hp → Prop) (h0 : I s0 σ H)
    (hs : ∀ (i : Nat) (x : Wrd) (s : τ) (b : Bf τ ρ), f s x = some b → conL f ((sgT l).drop (i + 1)) b = some res → ∀ σ H, I s σ H →
      g (.str (e_T x)) σ H fun σ2 H2 => tb { D with nx := PvL f (sgT l) res I (i + 1), ct := PvL f (sgT l) res I (i + 1), bk := D.nx } σ2 H2)
    (hd : ∀ s σ H, res = .nx s → I s σ H → D.nx σ H) : itS (.str (e_T l)) H (LpW g tb D σ) := by
  refine ⟨_, rfl, lp_it (walk_str (z := e_T l)) (by simp [sgT, e_T]) hm I h0 (fun _ _ _ _ => True.intro) (fun i x s b hx hb hr w σ H H' hI hY => ?_) hd⟩
  obtain ⟨rfl, c, h1, rfl⟩ := hY
  obtain rfl := sg_at hx h1
  exact hs i [c] s b hb hr σ _ hI
theorem lc_S {f : τ → Wrd → Option τ} {s1 : τ} {tt : TT} {te : TE} {ws : List Nat} {Q : VK} (hm : folM f (sgT l) s0 = some s1) (I : Addr → τ → Hp → Prop) (h0 : ∀ D, H D = none → I D s0 (upd H D (.lst [])))
    (hs : ∀ (D : Addr) (i : Nat) (x : Wrd) (s s' : τ), f s x = some s' → folM f ((sgT l).drop (i + 1)) s' = some s1 → ∀ H, I D s H → g (.str (e_T x)) (wipe σ ws) H (lcTurn tt te ws σ D (PvF f (sgT l) s1 (I D) (i + 1))))
    (hd : ∀ D H, I D s1 H → Q (.ref D) H) : itS (.str (e_T l)) H (LcW g tt te ws σ Q) := by
  refine ⟨_, rfl, lc_fol (walk_str (z := e_T l)) (by simp [sgT, e_T]) hm I h0 (fun _ _ _ _ => True.intro) (fun D i x s s' hx hb hr w H H' hI hY => ?_) hd⟩
  obtain ⟨rfl, c, h1, rfl⟩ := hY
  obtain rfl := sg_at hx h1
  exact hs D i [c] s s' hb hr _ hI
end
end Mr

set_option Elab.async false
set_option linter.all false
set_option maxRecDepth 100000
set_option maxHeartbeats 2000000
/-! CompK: rules within comprehensions (the fragment named), isinstance of several types, a walrus in a while's test. -/
namespace Mr
open PySem PySem.Spec PyProof.Rows L2
section
variable {X : Cx} {K : PySem.W.Frag} {tg e : Expr} {te : TE} {ta : TA} {p pos tpos : Pos}
theorem pi_listK (h : X.K = K) (he : PE X e te) : PI X tg e (iList K te) := h ▸ pi_list he
theorem pi_tupK (h : X.K = K) (he : PE X e te) : PI X tg e (iTup K te) := h ▸ pi_tup he
theorem op_addTK : OpR X (binaryOp .Add) rAddT := op_addT
end
section
variable {α β : Type} {r0 : R α} {r1 : R β} {y : α × β} {K : PySem.W.Frag} {G H : Hp} {O : Own} {v : V} {Q : VK}
theorem q_tupP2 (S : Sub G O H) (h : (rP2 K r0 r1).rel G v y) (q : Q v H) : rTupOf K [v] H Q := by
  obtain ⟨p, v0, v1, rfl, hs, _⟩ := h
  exact ⟨p, _, rfl, .inr ⟨sqT_up S.ext hs, q⟩⟩
end
/-! isinstance(x, (A, B)) -/
section
variable {K : PySem.W.Frag} {H : Hp} {v : V} {p : Addr} {Q : VK}
def kitL (t : String) : List String → Option Bool
  | [] => some false
  | c :: r => match kitB t c with
    | some true => some true
    | some false => kitL t r
    | none => none
theorem kitL_any {t : String} : ∀ {cs : List String} {b : Bool}, kitL t cs = some b → PySem.W.kitAny K (.type t) (cs.map Value.type) = some b
  | [], b, h => h
  | c :: cs, b, h => by
    unfold kitL at h
    show (match PySem.W.kitOne K (.type t) (.type c) with
      | some true => some true
      | some false => PySem.W.kitAny K (.type t) (cs.map Value.type)
      | none => none) = some b
    cases hk : kitB t c with
    | none => rw [hk] at h; cases h
    | some k =>
      rw [hk] at h
      rw [kit_ty hk]
      cases k with
      | true => exact h
      | false => exact kitL_any h
theorem clsV_map : ∀ cs : List String, Paired ClsV (cs.map V.ty) (cs.map Value.type)
  | [] => .nil
  | c :: cs => .cons (.ty c) (clsV_map cs)
theorem q_isiT {t : String} {cs : List String} {b : Bool} (h : TyX K (upd H p (.tup (cs.map V.ty))) v (.type t)) (e : kitL t cs = some b) (q : Q (.bl b) (upd H p (.tup (cs.map V.ty)))) : rIsiT K [v, .ref p] (upd H p (.tup (cs.map V.ty))) Q :=
  ⟨v, p, _, .type t, _, b, rfl, upd_same, clsV_map cs, h, kitL_any e, q⟩
end
/-! while (x := e) op f -/
section
variable {τ ρ : Type} {f : τ → Option (Bf τ ρ)} {N : Nat} {s0 : τ} {res : Fl τ ρ} {c : TTw} {tb : TS} {D : Ends} {σ : L2.St} {H : Hp}
theorem lp_WW (hm : whL f N s0 = some res) (I : τ → L2.St → Hp → Prop) (h0 : I s0 σ H)
    (hs : ∀ (n : Nat) (s : τ) (b : Bf τ ρ), f s = some b → conW f n b = some res → ∀ σ H, I s σ H →
      c σ H fun t σ1 H1 => if t = true then ∃ N : L2.St → Hp → Prop, (∀ σ' H', N σ' H' → ∃ m', m' < n + 1 ∧ PvW f res I m' σ' H') ∧ tb { D with nx := N, ct := N, bk := D.nx } σ1 H1 else tNext D σ1 H1) : tWhileW c tb tNext D σ H := by
  refine ⟨fun m => PvW f res I m, ⟨N, s0, h0, hm⟩, fun m σ H hW => ?_⟩
  obtain ⟨s, hI, hf⟩ := hW
  cases m with
  | zero => cases hf
  | succ n =>
    rw [whL_succ] at hf
    obtain ⟨b, hb, hc⟩ := bindS hf
    exact hs n s b hb hc σ H hI
theorem gWCmp {r : R2} {t : TEw} {tb : TE} {Q : Bool → L2.St → Hp → Prop} (h : t σ H fun x σ1 H1 => tb σ1 H1 fun y H2 => r x y H2 fun z H3 => ∃ k, z = .bl k ∧ Q k σ1 H3) : wCmp r t tb σ H Q := h
theorem gWNm {t : TE} {i : Nat} {Q : V → L2.St → Hp → Prop} (h : t σ H fun x H1 => Q x (σ.set i (some x)) H1) : wNm (wE t) i σ H Q := h
end
end Mr

set_option linter.all false
/-! ClsP: dicts with text keys, as lists of pairs in the order of insertion. -/
namespace Mr
def getW {α : Type} (kvs : List (Wrd × α)) (w : Wrd) : Option α := (kvs.find? fun p => decide (p.1 = w)).map (·.2)
def putW {α : Type} (kvs : List (Wrd × α)) (w : Wrd) (x : α) : List (Wrd × α) := if (kvs.any fun p => decide (p.1 = w)) = true then kvs.map (fun p => if p.1 = w then (p.1, x) else p) else kvs ++ [(w, x)]
def putWM {α : Type} (kvs : List (Wrd × α)) (w : Wrd) (x : α) : Option (List (Wrd × α)) := if kvs.length < 100000 then some (putW kvs w x) else none
end Mr

set_option Elab.async false
set_option linter.all false
set_option maxRecDepth 100000
set_option maxHeartbeats 2000000
/-! ClsG: instances that are frozen, dicts with text keys. -/
namespace Mr
open PySem PySem.Spec PyProof.Rows L2
/-- an instance with these attributes -/
def InsAt (C : Addr) (fs : List (Str × V)) (G : Hp) (v : V) : Prop := ∃ a dx, v = .ref a ∧ G a = some (.ins C dx fs)
section
variable {α : Type} {r : R α} {K : PySem.W.Frag} {C a dx : Addr} {fs : List (Str × V)} {G G' H : Hp} {O : Own} {v u : V} {Q : VK} {f m : Str} {P : Prop}
theorem InsAt.up (e : Ext G G') (h : InsAt C fs G v) : InsAt C fs G' v := let ⟨a, dx, e1, e2⟩ := h; ⟨a, dx, e1, e _ _ e2⟩
theorem frz_I (S : Sub G ((a, .ins C dx fs) :: O) H) : ∃ G', Ext G G' ∧ Sub G' O H ∧ InsAt C fs G' (.ref a) := ⟨_, S.extFrz, S.frz, a, dx, rfl, upd_same⟩
theorem frz_D {ks : List (L2.Key × V)} (S : Sub G ((a, .dK ks) :: O) H) : ∃ G', Ext G G' ∧ Sub G' O H ∧ G' a = some (.dK ks) := ⟨_, S.extFrz, S.frz, upd_same⟩
theorem q_fld (S : Sub G O H) (h : InsAt C fs G v) (c : Cls K C) (n : NoAttr K C f) (l : fs.lookup f = some u) (q : Q u H) : ∃ a C dx fs u, v = .ref a ∧ H a = some (.ins C dx fs) ∧ Cls K C ∧ NoAttr K C f ∧ fs.lookup f = some u ∧ Q u H :=
  let ⟨a, dx, e1, e2⟩ := h; ⟨a, C, dx, fs, u, e1, S.ext _ _ e2, c, n, l, q⟩
theorem q_mth (S : Sub G O H) (h : InsAt C fs G v) (l : fs.lookup m = none) (q : P) : ∃ a dx fs, v = .ref a ∧ H a = some (.ins C dx fs) ∧ fs.lookup m = none ∧ P :=
  let ⟨a, dx, e1, e2⟩ := h; ⟨a, dx, fs, e1, S.ext _ _ e2, l, q⟩
theorem ins_prop (S : Sub G O H) (h : InsAt C fs G v) : ∃ a dx, v = .ref a ∧ H a = some (.ins C dx fs) := let ⟨a, dx, e1, e2⟩ := h; ⟨a, dx, e1, S.ext _ _ e2⟩
end
/-- an instance of which one attribute is known -/
def rIP {α : Type} (C : Addr) (f : Str) (r : R α) : R α := ⟨fun G v x => ∃ (fs : List (Str × V)) (u : V), InsAt C fs G v ∧ fs.lookup f = some u ∧ r.rel G u x, fun e ⟨fs, u, h1, h2, h3⟩ => ⟨fs, u, h1.up e, h2, r.mono e h3⟩⟩
/-! making -/
def mkMk (C : Addr) (sp : Sp) (E : XK) (vs : List V) (H1 : Hp) (Q : VK) : Prop := ∀ x dx, H1 x = none → H1 dx = none → dx ≠ x → sp (.ref x :: vs) (upd (upd H1 dx (.own x)) x (.ins C dx [])) (fun v H2 => v = .non ∧ Q (.ref x) H2) E
theorem gMake {C : Addr} {sp : Sp} {dvs : List V} {E : XK} {t : TA} {σ : L2.St} {H : Hp} {Q : VK} (h : t σ H fun vs H1 => mkMk C sp E (vs ++ dvs) H1 Q) : tMake C sp dvs E t σ H Q := h
theorem gMeth {C : Addr} {m : Str} {sp : Sp} {dvs : List V} {E : XK} {ta : TE} {t : TA} {σ : L2.St} {H : Hp} {Q : VK} (h : ta σ H fun x H1 => ∃ a dx fs, x = .ref a ∧ H1 a = some (.ins C dx fs) ∧ fs.lookup m = none ∧ t σ H1 fun vs H2 => sp (x :: (vs ++ dvs)) H2 Q E) : tMeth C m sp dvs E ta t σ H Q := h
theorem mk_step {C : Addr} {sp : Sp} {E : XK} {vs : List V} {G H : Hp} {O : Own} {Q : VK} (S : Sub G O H) (q : ∀ (x dx : Addr) (H' : Hp), Sub G ((x, .ins C dx []) :: O) H' → sp (.ref x :: vs) H' (fun v H2 => v = .non ∧ Q (.ref x) H2) E) : mkMk C sp E vs H Q := by
  intro x dx hx hd hn
  have hx1 : upd H dx (.own x) x = none := by rw [upd_ne (Ne.symm hn)]; exact hx
  exact q x dx _ ((S.junk hd).newOwn hx1)
section
variable {ta tv : TE} {σ : L2.St} {H : Hp} {Q : VK} {D : Ends} {K : PySem.W.Frag} {f : Str} {tr : TS}
theorem gFld (h : ta σ H fun x H1 => ∃ a C dx fs v, x = .ref a ∧ H1 a = some (.ins C dx fs) ∧ Cls K C ∧ NoAttr K C f ∧ fs.lookup f = some v ∧ Q v H1) : tFld K ta f σ H Q := h
theorem gSFld (h : tv σ H fun y H1 => ta σ H1 fun x H2 => ∃ a C dx fs, x = .ref a ∧ H2 a = some (.ins C dx fs) ∧ Cls K C ∧ NoAttr K C f ∧ fs.length < 1000 ∧ D.nx σ (upd H2 a (.ins C dx (putF f y fs)))) : sFld K ta tv f D σ H := h
theorem gS_SFld (h : tv σ H fun y H1 => ta σ H1 fun x H2 => ∃ a C dx fs, x = .ref a ∧ H2 a = some (.ins C dx fs) ∧ Cls K C ∧ NoAttr K C f ∧ fs.length < 1000 ∧ tr D σ (upd H2 a (.ins C dx (putF f y fs)))) : tSeq (sFld K ta tv f) tr D σ H := h
theorem gDNew (h : ∀ p, H p = none → Q (.ref p) (upd H p (.dK []))) : tDNewK σ H Q := h
variable {td ty : TE}
theorem gDGet (h : td σ H fun x H1 => ty σ H1 fun y H2 => ∃ a v, x = .ref a ∧ DGet H2 a y (some v) ∧ Q v H2) : tDGet td ty σ H Q := h
theorem gDPut (h : tv σ H fun v H1 => td σ H1 fun x H2 => ty σ H2 fun y H3 => ∃ a H4, x = .ref a ∧ DPut H3 a y v H4 ∧ D.nx σ H4) : sDPut td ty tv D σ H := h
theorem gS_DPut (h : tv σ H fun v H1 => td σ H1 fun x H2 => ty σ H2 fun y H3 => ∃ a H4, x = .ref a ∧ DPut H3 a y v H4 ∧ tr D σ H4) : tSeq (sDPut td ty tv) tr D σ H := h
end
/-! ### dicts with text keys -/
def AlD {α : Type} (r : R α) (G : Hp) : List (L2.Key × V) → List (Wrd × α) → Prop
  | [], [] => True
  | (k, v) :: ks, (w, x) :: xs => k = .inr (e_T w) ∧ r.rel G v x ∧ AlD r G ks xs
  | _, _ => False
section
variable {α : Type} {r : R α} {K : PySem.W.Frag} {G G' H : Hp} {O : Own} {d : Addr} {v u : V} {w : Wrd} {x : α} {Q : VK}
theorem AlD.up (e : Ext G G') : ∀ {ks : List (L2.Key × V)} {kvs : List (Wrd × α)}, AlD r G ks kvs → AlD r G' ks kvs
  | [], [], _ => True.intro
  | (_, _) :: _, (_, _) :: _, h => ⟨h.1, r.mono e h.2.1, AlD.up e h.2.2⟩
  | [], _ :: _, h => h.elim
  | (_, _) :: _, [], h => h.elim
theorem AlD.len : ∀ {ks : List (L2.Key × V)} {kvs : List (Wrd × α)}, AlD r G ks kvs → ks.length = kvs.length
  | [], [], _ => rfl
  | (_, _) :: _, (_, _) :: _, h => congrArg Nat.succ (AlD.len h.2.2)
  | [], _ :: _, h => h.elim
  | (_, _) :: _, [], h => h.elim
theorem key_eq {w w2 : Wrd} : ((.inr (e_T w2) : L2.Key) = .inr (e_T w)) ↔ w2 = w := ⟨fun h => e_T_inj _ _ (Sum.inr.inj h), fun h => by rw [h]⟩
theorem AlD.get : ∀ {ks : List (L2.Key × V)} {kvs : List (Wrd × α)}, AlD r G ks kvs → getW kvs w = some x → ∃ v, valV ks (.inr (e_T w)) = some v ∧ r.rel G v x
  | [], [], _, e => by cases e
  | (k, v) :: ks, (w2, y) :: kvs, h, e => by
    obtain ⟨rfl, h2, h3⟩ := h
    by_cases c : w2 = w
    · subst c
      refine ⟨v, by simp [valV], ?_⟩
      have : y = x := by simpa [getW] using e
      rw [← this]; exact h2
    · have e' : getW kvs w = some x := by
        unfold getW at e ⊢
        rwa [List.find?_cons_of_neg (by simpa using c)] at e
      obtain ⟨u, k1, k2⟩ := AlD.get h3 e'
      refine ⟨u, ?_, k2⟩
      unfold valV at k1 ⊢
      rw [List.find?_cons_of_neg (by simpa using fun z => c (e_T_inj _ _ z))]
      exact k1
  | [], _ :: _, h, _ => h.elim
  | (_, _) :: _, [], h, _ => h.elim
theorem AlD.any : ∀ {ks : List (L2.Key × V)} {kvs : List (Wrd × α)}, AlD r G ks kvs → (ks.any fun p => decide (p.1 = .inr (e_T w))) = kvs.any fun p => decide (p.1 = w)
  | [], [], _ => rfl
  | (k, v) :: ks, (w2, y) :: kvs, h => by
    obtain ⟨rfl, _, h3⟩ := h
    rw [List.any_cons, List.any_cons, AlD.any h3]
    congr 1
    exact decide_eq_decide.mpr key_eq
  | [], _ :: _, h => h.elim
  | (_, _) :: _, [], h => h.elim
theorem AlD.mapPut (hv : r.rel G u x) : ∀ {ks : List (L2.Key × V)} {kvs : List (Wrd × α)}, AlD r G ks kvs → AlD r G (ks.map fun p => if p.1 = .inr (e_T w) then (p.1, u) else p) (kvs.map fun p => if p.1 = w then (p.1, x) else p)
  | [], [], _ => True.intro
  | (k, v) :: ks, (w2, y) :: kvs, h => by
    obtain ⟨rfl, h2, h3⟩ := h
    rw [List.map_cons, List.map_cons]
    have ih := AlD.mapPut hv h3
    by_cases c : w2 = w
    · rw [if_pos (key_eq.mpr c), if_pos c]
      exact ⟨rfl, hv, ih⟩
    · rw [if_neg (fun z => c (key_eq.mp z)), if_neg c]
      exact ⟨rfl, h2, ih⟩
  | [], _ :: _, h => h.elim
  | (_, _) :: _, [], h => h.elim
theorem AlD.app : ∀ {ks ks' : List (L2.Key × V)} {kvs kvs' : List (Wrd × α)}, AlD r G ks kvs → AlD r G ks' kvs' → AlD r G (ks ++ ks') (kvs ++ kvs')
  | [], _, [], _, _, h => h
  | (_, _) :: _, _, (_, _) :: _, _, h, h' => ⟨h.1, h.2.1, AlD.app h.2.2 h'⟩
  | [], _, _ :: _, _, h, _ => h.elim
  | (_, _) :: _, _, [], _, h, _ => h.elim
theorem AlD.put {ks : List (L2.Key × V)} {kvs : List (Wrd × α)} (h : AlD r G ks kvs) (hv : r.rel G u x) : AlD r G (putK ks (.inr (e_T w)) u) (putW kvs w x) := by
  unfold putK putW
  rw [AlD.any h]
  by_cases c : (kvs.any fun p => decide (p.1 = w)) = true
  · rw [if_pos c, if_pos c]; exact h.mapPut hv
  · rw [if_neg c, if_neg c]; exact h.app ⟨rfl, hv, True.intro⟩
def rSD (r : R α) : R (List (Wrd × α)) := ⟨fun G v kvs => ∃ p ks, v = .ref p ∧ G p = some (.dK ks) ∧ AlD r G ks kvs, fun e ⟨p, ks, h1, h2, h3⟩ => ⟨p, ks, h1, e _ _ h2, h3.up e⟩⟩
theorem q_dget {kvs : List (Wrd × α)} (S : Sub G O H) (h : (rSD r).rel G v kvs) (e : getW kvs w = some x) (q : ∀ u, r.rel G u x → Q u H) : ∃ a v', v = .ref a ∧ DGet H a (.str (e_T w)) (some v') ∧ Q v' H := by
  obtain ⟨p, ks, rfl, hp, ha⟩ := h
  obtain ⟨u, k1, k2⟩ := ha.get e
  exact ⟨p, u, rfl, .inl ⟨ks, .inr (e_T w), .inl (S.ext _ _ hp), rfl, k1.symm⟩, q u k2⟩
theorem q_dput {kvs kvs' : List (Wrd × α)} {ks : List (L2.Key × V)} {P : Hp → Prop} (S : Sub G ((d, .dK ks) :: O) H) (h : AlD r G ks kvs) (hv : r.rel G u x) (e : putWM kvs w x = some kvs') (q : ∀ H' ks', Sub G ((d, .dK ks') :: O) H' → AlD r G ks' kvs' → P H') :
    ∃ a H4, V.ref d = .ref a ∧ DPut H a (.str (e_T w)) u H4 ∧ P H4 := by
  obtain ⟨c, rfl⟩ := ifS e
  exact ⟨d, _, rfl, .inl ⟨ks, .inr (e_T w), S.head, rfl, szl (by rw [h.len]; exact c), rfl⟩, q _ _ S.wr (h.put hv)⟩
end
end Mr

set_option linter.all false
/-! ToaP: a text, or any other thing. -/
namespace Mr
open PySem PySem.Spec
abbrev TxO := Wrd ⊕ PyData
def toW : TxO → Option Wrd
  | .inl w => some w
  | .inr _ => none
def toA : TxO → PyData
  | .inl w => .str (e_T w)
  | .inr d => d
def isTx : TxO → Bool
  | .inl _ => true
  | .inr _ => false
end Mr

set_option Elab.async false
set_option linter.all false
set_option maxRecDepth 100000
set_option maxHeartbeats 2000000
/-! ToaG: a text, or any other thing, in worlds. -/
namespace Mr
open PySem PySem.Spec PyProof.Rows L2
def dTx {K : PySem.W.Frag} : RD K Wrd := ⟨rTx, fun w => .str (e_T w), 1, fun w => PyData.strOk (e_T w), fun _ h => h, fun _ => by simp [PyData.depth], fun {H v x} h => by cases (show v = .str (e_T x) from h); exact .str _, fun x y => by
  show (e_T x == e_T y) = decide (x = y)
  by_cases h : x = y
  · subst h; simp
  · rw [decide_eq_false h]
    exact beq_eq_false_iff_ne.mpr fun z => h (e_T_inj x y z)⟩
def rTO (K : PySem.W.Frag) : R TxO := ⟨fun G v x => match x with
  | .inl w => v = .str (e_T w)
  | .inr d => (rAny K).rel G v d ∧ isStr d = false, fun {G G' v x} e h => match x, h with
  | .inl _, h => h
  | .inr _, h => ⟨(rAny K).mono e h.1, h.2⟩⟩
section
variable {K : PySem.W.Frag} {G H : Hp} {O : Own} {v : V} {x : TxO} {w : Wrd} {d : PyData} {Q : VK}
theorem rTO_get (h : (rTO K).rel G v x) (e : toW x = some w) : v = .str (e_T w) := by
  cases x with
  | inl y => cases e; exact h
  | inr y => cases e
theorem rTO_inl : (rTO K).rel G (.str (e_T w)) (.inl w) := rfl
theorem rTO_inr (h : (rAny K).rel G v d) (n : isStr d = false) : (rTO K).rel G v (.inr d) := ⟨h, n⟩
theorem rTO_any (h : (rTO K).rel G v x) : (rAny K).rel G v (toA x) := by
  cases x with
  | inl y => cases (show v = _ from h); exact Dp.str _
  | inr y => exact h.1
theorem q_isiTO {b : Bool} (S : Sub G O H) (h : (rTO K).rel G v x) (hb : isTx x = b) (q : Q (.bl b) H) (hk : ∀ d, x = .inr d → ∃ k, kindA d = some k) : rIsi K [v, .ty "str"] H Q := by
  subst hb
  have h2 := rTO_any h
  cases x with
  | inl y => exact q_isiA (c := "str") (b := true) (by decide) S h2 rfl q
  | inr y =>
    obtain ⟨k, hk⟩ := hk y rfl
    refine q_isiA (c := "str") (b := false) (by decide) S h2 ?_ q
    obtain ⟨h3, h4⟩ := h
    show isA "str" y = some false
    cases y <;> first | (exact Bool.noConfusion (show true = false from h4)) | rfl | (cases hk; done)
theorem kind_any (h : (rAny K).rel G v d) : ∃ k, kindA d = some k := by
  have h' : Dp K G v d := h
  cases h' <;> exact ⟨_, rfl⟩
theorem q_isTx (S : Sub G O H) (h : (rTO K).rel G v x) (q : Q (.bl (isTx x)) H) : rIsi K [v, .ty "str"] H Q :=
  q_isiTO S h rfl q fun d e => by subst e; exact kind_any h.1
end
end Mr

set_option Elab.async false
set_option linter.all false
set_option maxRecDepth 100000
set_option maxHeartbeats 2000000
/-! FmtR: {x!r} of any data in an f-string. -/
namespace PySem
open PySem.Spec PyProof.Rows
/-- repr of any data: some text -/
theorem reprObj_some {prog : Program} {w : World} {A : Around} {E : Value → Shared → Prop} {s : Shared} {Q : Value → Shared → Prop} {v : Value} {d : PyData} {as : List Addr} (r : Reads s.heap v d as) (hs : rok d = true) (hz : rcost d + 10 ≤ sizeLine) (hu : A.units + (d.depth + 2) < cLine)
    (hQ : ∀ (m : Str) h' u tk, m.length ≤ rcost d + 10 → KpH s.heap h' → Q (.str m u) { s with heap := h', toks := tk }) : wpAny (model prog w) A (pyReprObj v) Q E s := by
  cases r with
  | none => exact pyReprObj_none (hQ "None" s.heap _ _ (Nat.le_trans (show ("None" : Str).length ≤ 5 by decide +kernel) (by omega)) fun _ _ e => e)
  | bool b =>
    refine pyReprObj_bool (hQ _ s.heap _ _ ?_ fun _ _ e => e)
    have h5 : (Str.ofString (if b then "True" else "False")).length ≤ 5 := by cases b <;> decide +kernel
    have h6 : ∀ z : Str, z.length ≤ 5 → z.length ≤ rcost (.bool b) + 10 := fun z hz => by omega
    refine h6 _ ?_
    cases b <;> decide +kernel
  | int i t =>
    simp only [rok, decide_eq_true_eq] at hs
    exact pyReprObj_int hs (hQ _ s.heap _ _ (by simp only [rcost]; omega) fun _ _ e => e)
  | str y t =>
    simp only [rok, decide_eq_true_eq] at hs
    exact pyReprObj_str (hQ _ s.heap _ _ (by simp only [rcost]; omega) fun _ _ e => e) hs
  | tuple h1 h2 h3 h4 =>
    simp only [rok] at hs
    have h5 := ReprAllS.of_reads (prog := prog) (w := w) h4 hs
    simp only [rcost, PyData.depth] at hz hu hQ
    rw [← rcostAll_sum] at hz hQ
    exact wpAny_pyReprObj_slot (by omega) ⟨_, h1, h2⟩ F.slot_tuple_repr
      (call_tuple_reprS h1 h2 h3 h5 (by omega) (fun _ _ e => e) (fun m h' u tk hm hk => ⟨_, _, rfl, hQ m h' u tk (by omega) hk⟩) (by omega))
  | list h1 h2 h3 h4 =>
    rename_i o vs n xs bs
    simp only [rok] at hs
    have h5 := ReprAllS.of_reads (prog := prog) (w := w) h4 hs
    simp only [rcost, PyData.depth] at hz hu hQ
    rw [← rcostAll_sum] at hz hQ
    obtain ⟨l⟩ := vs
    cases l with
    | nil =>
      exact wpAny_pyReprObj_slot (by omega) ⟨_, h1, h2⟩ F.slot_list_repr.toG
        (call_list_repr_empty ⟨o, h1, h2⟩ h1 h3 ⟨_, _, rfl, hQ "[]" s.heap _ _ (Nat.le_trans (show ("[]" : Str).length ≤ 2 by decide +kernel) (by omega)) fun _ _ e => e⟩)
    | cons x l =>
      have hl2 : 2 * (x :: l).length ≤ sumS (List.map rcost xs) := h5.len2
      exact wpAny_pyReprObj_slot (by omega) ⟨_, h1, h2⟩ F.slot_list_repr.toG
        (call_list_reprS h1 h2 h3 h5 (by omega) (fun _ _ e => e) (by omega) (fun m h' u tk hm hk => ⟨_, _, rfl, hQ m h' u tk (by omega) hk⟩) (by omega))
  | dict h1 h2 h3 h4 h5 => simp [rok] at hs
end PySem
namespace L2
open PySem PySem.Spec PyProof.Rows
theorem pe_fmtRD {X : Cx} {e : Expr} {te : TE} {pos : Pos} {k : Nat} (hr : Room k X.A) (he : PE X e te) : PE X (.FormattedValue e 114 none pos) (tFmtD X.K te) := by
  refine ⟨fun pins s σ H Q I h => ?_⟩
  refine wpAny_FormattedValue_repr (thn (he.run pins s σ H _ I h) fun v s1 hv => ?_)
  obtain ⟨x, H1, I1, r1, d, hd, ⟨h1, h2, h3, h4⟩, q⟩ := hv
  obtain ⟨as, rd⟩ := Dp.reads I1 d x v hd r1
  have hu := hr.units
  have hz : (1000000 : Nat) ≤ sizeLine := by decide
  refine reprObj_some rd h1 (by omega) (by omega) fun m h' u tk hm hk => ?_
  have hm' : m.length ≤ 1000000 := by omega
  have I2 : Inv X pins σ H1 { s1 with heap := h', toks := tk } := I1.call' (ch := []) rfl (Un.kept hk) (I1.hok.kept hk) I1.bare fun b z => by simp at z
  refine wpAny_formatField_str ?_ ?_ (Nat.le_trans hm' hz)
  · exact ⟨.str m, H1, I2.tok _, ⟨_, rfl⟩, q m hm'⟩
  · exact ⟨.str m, H1, I2.tok _, ⟨_, rfl⟩, q m hm'⟩
end L2

set_option Elab.async false
set_option linter.all false
set_option maxRecDepth 100000
set_option maxHeartbeats 2000000
/-! InkC: inks put together; texts repeated; lists of the signs of a text. -/
namespace Mr
open PySem PySem.Spec PyProof.Rows L2
section
variable {X : Cx} {σ : L2.St} {G H : Hp} {O : Own} {Q : VK} {K : PySem.W.Frag}
theorem q_catI {a b z : Ink} (e : catI a b = some z) (q : Q (.str (e_Ink z)) H) : rAddT (.str (e_Ink a)) (.str (e_Ink b)) H Q := by
  obtain ⟨c, rfl⟩ := ifS e
  refine ⟨_, _, rfl, rfl, by rw [e_Ink_len, e_Ink_len]; exact sz c, ?_⟩
  have : e_Ink a ++ e_Ink b = e_Ink (a ++ b) := by
    show (⟨_⟩ : Str) = ⟨_⟩
    congr 1
    simp [e_Ink]
  rw [this]; exact q
/-! text * number -/
def rMulT : R2 := fun x y H Q => ∃ (a : Wrd) (k : Int), x = .str (e_T a) ∧ y = .int k ∧ 2 ≤ k ∧ k ≤ 1000 ∧ a ≠ [] ∧ a.length ≤ 1000 ∧ Q (.str (e_T (List.replicate k.toNat a).flatten)) H
theorem fold_app (x : Array Nat) : ∀ (l : List (Array Nat)) (b : Array Nat), (l.foldl (· ++ ·) b).toList = b.toList ++ (l.map Array.toList).flatten
  | [], b => by simp
  | y :: l, b => by rw [List.foldl_cons, fold_app x l]; simp
theorem op_mulT : OpR X (binaryOp .Mult) rMulT := by
  intro pins s σ H x y v u Q I rx ry h
  obtain ⟨a, k, rfl, rfl, h1, h2, h3, h4, q⟩ := h
  obtain ⟨t, rfl⟩ := rx
  obtain ⟨t', rfl⟩ := ry
  have hl : (e_T a).length = a.length := e_T_len a
  have hpos : 0 < a.length := List.length_pos_iff.mpr h3
  have e1 : (k == 1 || (e_T a).length == 0) = false := by
    rw [hl, Bool.or_eq_false_iff]
    exact ⟨beq_eq_false_iff_ne.mpr (by omega), beq_eq_false_iff_ne.mpr (by omega)⟩
  have hz : (1000000 : Nat) ≤ sizeLine := by decide
  have hm : a.length * k.toNat ≤ 1000000 := Nat.le_trans (Nat.mul_le_mul h4 (show k.toNat ≤ 1000 by omega)) (by decide)
  have e2 : (⟨(List.replicate k.toNat (e_T a).cps).foldl (· ++ ·) #[]⟩ : Str) = e_T (List.replicate k.toNat a).flatten := by
    show (⟨_⟩ : Str) = ⟨_⟩
    congr 1
    apply Array.toList_inj.mp
    rw [fold_app #[]]
    simp [e_T]
  have e3 : ((List.replicate k.toNat a).flatten).length = k.toNat * a.length := by simp
  refine P.mul_str ?_ (fun _ _ => ?_) (fun _ _ => ?_) ?_
  · rw [decide_eq_false (by omega), decide_eq_false (by omega)]; rfl
  · rw [hl]
    have : (1000000000 : Int) ≤ (2 ^ 63 - 1) / k := by
      refine Int.le_ediv_of_mul_le (by omega) ?_
      have : 1000000000 * k ≤ 1000000000 * 1000 := Int.mul_le_mul_of_nonneg_left h2 (by decide)
      omega
    omega
  · rw [hl]
    show decide _ = false
    rw [decide_eq_false_iff_not]
    omega
  · rw [if_neg (by omega), e1, if_neg (by decide), e2]
    refine ⟨?_, ?_⟩
    · rw [e_T_len, e3]
      have : k.toNat * a.length = a.length * k.toNat := Nat.mul_comm ..
      omega
    · exact ⟨.str _, H, I.tok _, ⟨_, rfl⟩, q⟩
theorem q_mulT {a z : Wrd} {k : Int} (e : mulT a k = some z) (q : Q (.str (e_T z)) H) : rMulT (.str (e_T a)) (.int k) H Q := by
  obtain ⟨c, rfl⟩ := ifS e
  exact ⟨a, k, rfl, rfl, c.1, c.2.1, c.2.2.1, c.2.2.2, q⟩
/-! list(text) -/
def rListTx : List V → Hp → VK → Prop := fun xs H Q => ∃ z : Str, xs = [.str z] ∧ z.cps.size ≤ sizeLine ∧ ∀ l, H l = none → Q (.ref l) (upd H l (.lst (z.cps.toList.map fun c => V.str ⟨#[c]⟩)))
theorem call_listTx (hc : X.calm = true) : CallR X (.type "list") rListTx := by
  intro pins s σ H xs us Q I r h
  obtain ⟨z, rfl, hz, q⟩ := h
  obtain ⟨u, rfl, t, rfl⟩ := vals1 r
  refine call_list_str (I.ok.hd hc) z t (fun h' tk acc' c' hk hg hi => ?_) hz
  refine ⟨.ref s.heap.objs.size, _, I.laid (t' := tk) hk (Nat.le_refl _) (show ObjOk X.prog X.w _ h' _ (.lst (z.cps.toList.map fun c => V.str ⟨#[c]⟩)) from ⟨by simpa using hz, acc'.toList, c', ?_, by simpa using hg⟩), rfl, q _ (I.hok.fresh (Nat.le_refl _))⟩
  refine vals_of_idx _ _ (by simp [hi.1]) fun j v hj => ?_
  obtain ⟨c, u, e1, e2⟩ := hi.2 j v (by simpa using hj)
  exact ⟨.str ⟨#[c]⟩, by simp [e1], u, e2⟩
theorem q_listTx {w : Wrd} {z : List Wrd} (S : Sub G O H) (e : lsTx w = some z) (q : ∀ u G' H', Ext G G' → Sub G' O H' → (rM rTx).rel G' u z → Q u H') : rListTx [.str (e_T w)] H Q := by
  obtain ⟨c, rfl⟩ := ifS e
  refine ⟨_, rfl, by rw [show (e_T w).cps.size = (e_T w).length from rfl, e_T_len]; exact sz c, fun l hl => ?_⟩
  refine q _ _ _ (S.extNew hl _) (S.new hl) ⟨l, _, rfl, upd_same, ?_⟩
  have := sg_al (G := upd G l (.lst ((e_T w).cps.toList.map fun c => V.str ⟨#[c]⟩))) w
  simpa [e_T, sgT] using this
end
end Mr

set_option linter.all false
set_option maxRecDepth 100000
set_option synthInstance.maxSize 4000
set_option synthInstance.maxHeartbeats 400000
namespace Mr
open PySem
structure Face where
  apart : Int
  inks : (List (List Ink))
  gaps_and_bars : (List (Wrd × (Int × (Option Int))))
inductive ExM where
  | BadWord (word : PyData)
def m_law_refused_er : ExM → PyData → Option Bool
  | .BadWord x0, due => Option.bind (Option.bind (eqA x0 due) fun b1 =>
  if b1 then (some true) else some false) fun x1 =>
  some x1
def m_law_refused {α : Type} (res : Rs ExM α) (due : PyData) : Option Bool := match res with
  | .ok _ => some false
  | .er x => m_law_refused_er x due

def m_Face_letters (self1 : Face) : Option Wrd :=
  Option.bind (cutT ([97, 98, 99, 100] : Wrd) none (some (self1.inks.length : Int))) fun t1 =>
  some t1

def m_is_word_c1 (face1 : Face) : ((List Bool)) → Wrd → Option ((List Bool)) := fun acc2 x2 => Option.bind (m_Face_letters face1) fun r2 =>
  Option.bind (inT x2 r2) fun b5 =>
  Option.bind (appM acc2 b5) fun acc3 =>
  some acc3
def m_is_word (face1 : Face) (word1 : Wrd) : Option Bool :=
  Option.bind (if (!true) then some true else (Option.bind (lenT word1) fun k1 =>
  some (!((decide ((1 : Int) ≤ k1)) && (decide (k1 ≤ (40 : Int))))))) fun x1 =>
  if x1 then (some false)
  else (Option.bind (folM (m_is_word_c1 face1) (sgT word1) ([] : (List Bool))) fun acc1 =>
  some (acc1.all id))

def m_is_word__1_c1 (face1 : Face) : ((List Bool)) → Wrd → Option ((List Bool)) := fun acc2 x2 => Option.bind (m_Face_letters face1) fun r2 =>
  Option.bind (inT x2 r2) fun b5 =>
  Option.bind (appM acc2 b5) fun acc3 =>
  some acc3
def m_is_word__1 (face1 : Face) (word1 : TxO) : Option Bool :=
  Option.bind (if (!(isTx word1)) then some true else (Option.bind (toW word1) fun w1 =>
  Option.bind (lenT w1) fun k1 =>
  some (!((decide ((1 : Int) ≤ k1)) && (decide (k1 ≤ (40 : Int))))))) fun x1 =>
  if x1 then (some false)
  else (Option.bind (toW word1) fun w3 =>
  Option.bind (folM (m_is_word__1_c1 face1) (sgT w3) ([] : (List Bool))) fun acc1 =>
  some (acc1.all id))

def m_Face_place_of (self1 : Face) (letter1 : Wrd) : Option Int :=
  Option.bind (if (!true) then some true else (Option.bind (lenT letter1) fun k1 =>
  if (!decide (k1 = (1 : Int))) then some true else (Option.bind (m_Face_letters self1) fun r1 =>
  Option.bind (inT letter1 r1) fun b1 =>
  some (!b1)))) fun x1 =>
  if x1 then (none)
  else (Option.bind (idxA ([97, 98, 99, 100] : Wrd) letter1) fun k3 =>
  some k3)

def m_Face_told_pair (self1 : Face) (left1 : Wrd) (right1 : Wrd) : Option (Int × (Option Int)) :=
  Option.bind (m_Face_place_of self1 left1) fun r1 =>
  Option.bind (getT ([97, 98, 99, 100] : Wrd) r1) fun t1 =>
  Option.bind (m_Face_place_of self1 right1) fun r2 =>
  Option.bind (getT ([97, 98, 99, 100] : Wrd) r2) fun t2 =>
  Option.bind (catT t1 t2) fun t3 =>
  Option.bind (getW self1.gaps_and_bars t3) fun x1 =>
  some x1

def m_Face_gap (self1 : Face) (left1 : Wrd) (right1 : Wrd) : Option Int :=
  Option.bind (m_Face_told_pair self1 left1 right1) fun r2 =>
  some r2.1

def m_step_of_c1 : ((List Int)) → Ink → Option ((List Int)) := fun acc2 x1 => Option.bind (rfnM x1) fun k3 =>
  Option.bind (appM acc2 k3) fun acc3 =>
  some acc3
def m_step_of (ink1 : (List Ink)) : Option Int :=
  Option.bind (folM (m_step_of_c1) ink1 ([] : (List Int))) fun acc1 =>
  Option.bind (maxM acc1) fun x2 =>
  some (x2 + (1 : Int))

def m_Face_ink (self1 : Face) (letter1 : Wrd) : Option (List Ink) :=
  Option.bind (m_Face_place_of self1 letter1) fun r1 =>
  Option.bind (getM self1.inks r1) fun x1 =>
  some x1

def m_Face_step (self1 : Face) (letter1 : Wrd) : Option Int :=
  Option.bind (m_Face_ink self1 letter1) fun r1 =>
  Option.bind (m_step_of r1) fun r2 =>
  some r2

def m_columns_b1 (face1 : Face) (word1 : Wrd) : ((List Int)) → Int → Option ((List Int)) := fun found2 x1 => Option.bind (getT word1 (x1 - (1 : Int))) fun t1 =>
  Option.bind (getT word1 x1) fun t2 =>
  Option.bind (getM found2 (-(1 : Int))) fun x2 =>
  Option.bind (m_Face_step face1 t1) fun r3 =>
  Option.bind (m_Face_gap face1 t1 t2) fun r4 =>
  Option.bind (appM found2 ((x2 + r3) + r4)) fun found3 =>
  some found3
def m_columns (face1 : Face) (word1 : Wrd) : Option (List Int) :=
  Option.bind (m_is_word face1 word1) fun r2 =>
  if (!r2) then (none)
  else (Option.bind (lenT word1) fun k1 =>
  Option.bind (rng2M (1 : Int) k1) fun xs1 =>
  Option.bind (folM (m_columns_b1 face1 word1) xs1 ([(0 : Int)] : List Int)) fun found1 =>
  some found1)

def m_columns__1_b1 (face1 : Face) (w2 : Wrd) : ((List Int)) → Int → Option ((List Int)) := fun found2 x1 => Option.bind (getT w2 (x1 - (1 : Int))) fun t1 =>
  Option.bind (getT w2 x1) fun t2 =>
  Option.bind (getM found2 (-(1 : Int))) fun x2 =>
  Option.bind (m_Face_step face1 t1) fun r3 =>
  Option.bind (m_Face_gap face1 t1 t2) fun r4 =>
  Option.bind (appM found2 ((x2 + r3) + r4)) fun found3 =>
  some found3
def m_columns__1 (face1 : Face) (word1 : TxO) : Option (Rs ExM (List Int)) :=
  Option.bind (m_is_word__1 face1 word1) fun r2 =>
  if (!r2) then (Option.bind (fmtM (toA word1)) fun u1 =>
  some (Rs.er (ExM.BadWord (toA word1))))
  else (Option.bind (toW word1) fun w2 =>
  Option.bind (lenT w2) fun k1 =>
  Option.bind (rng2M (1 : Int) k1) fun xs1 =>
  Option.bind (folM (m_columns__1_b1 face1 w2) xs1 ([(0 : Int)] : List Int)) fun found1 =>
  some (Rs.ok found1))

def m_width (face1 : Face) (word1 : Wrd) : Option Int :=
  Option.bind (m_columns face1 word1) fun r2 =>
  Option.bind (getM r2 (-(1 : Int))) fun x1 =>
  Option.bind (getT word1 (-(1 : Int))) fun t1 =>
  Option.bind (m_Face_step face1 t1) fun r3 =>
  some (x1 + r3)

def m_width__1 (face1 : Face) (word1 : TxO) : Option (Rs ExM Int) :=
  Option.bind (m_columns__1 face1 word1) fun rs => match rs with
  | Rs.er x => some (Rs.er x)
  | Rs.ok r2 => Option.bind (getM r2 (-(1 : Int))) fun x3 =>
  Option.bind (toW word1) fun w1 =>
  Option.bind (getT w1 (-(1 : Int))) fun t1 =>
  Option.bind (m_Face_step face1 t1) fun r3 =>
  some (Rs.ok (x3 + r3))

def m_stamps_c1 (face1 : Face) : ((List ((List Ink) × Int))) → (Wrd × Int) → Option ((List ((List Ink) × Int))) := fun s x => match s, x with
  | acc2, (x1, x2) => Option.bind (m_Face_ink face1 x1) fun r3 =>
  Option.bind (appM acc2 (r3, x2)) fun acc3 =>
  some acc3
def m_stamps (face1 : Face) (word1 : Wrd) : Option (List ((List Ink) × Int)) :=
  Option.bind (m_columns face1 word1) fun r1 =>
  Option.bind (folM (m_stamps_c1 face1) (List.zip (sgT word1) r1) ([] : (List ((List Ink) × Int)))) fun acc1 =>
  some acc1

def m_stamps__1_c1 (face1 : Face) : ((List ((List Ink) × Int))) → (Wrd × Int) → Option ((List ((List Ink) × Int))) := fun s x => match s, x with
  | acc2, (x2, x3) => Option.bind (m_Face_ink face1 x2) fun r3 =>
  Option.bind (appM acc2 (r3, x3)) fun acc3 =>
  some acc3
def m_stamps__1 (face1 : Face) (word1 : TxO) : Option (Rs ExM (List ((List Ink) × Int))) :=
  Option.bind (m_columns__1 face1 word1) fun rs => match rs with
  | Rs.er x => some (Rs.er x)
  | Rs.ok r1 => Option.bind (toW word1) fun w1 =>
  Option.bind (folM (m_stamps__1_c1 face1) (List.zip (sgT w1) r1) ([] : (List ((List Ink) × Int)))) fun acc1 =>
  some (Rs.ok acc1)

def m_is_number (thing1 : Int) : Option Bool :=
  some (true && ((!false) && ((decide ((0 : Int) ≤ thing1)) && (decide (thing1 ≤ (4 : Int))))))

def m_is_corner (thing1 : (Int × Int)) : Option Bool :=
  Option.bind (if (!true) then some true else (some (!decide ((2 : Int) = (2 : Int))))) fun x1 =>
  if x1 then (some false)
  else (Option.bind (Option.bind (m_is_number thing1.1) fun r2 =>
  if r2 then (Option.bind (m_is_number thing1.2) fun r4 =>
  some r4) else some false) fun x2 =>
  some x2)

def m_is_ring_b1 : (Unit) → (Int × Int) → Option (Bf (Unit) Bool) := fun _ x2 => Option.bind (m_is_corner x2) fun r2 =>
  if (!r2) then (some (Bf.rt false))
  else (some (Bf.go ()))
def m_is_ring_b2 (thing1 : (List (Int × Int))) : (Unit) → Int → Option (Bf (Unit) Bool) := fun _ x3 => Option.bind (getM thing1 x3) fun x4 =>
  Option.bind (getM thing1 (x3 - (1 : Int))) fun x5 =>
  if (decide (x4 = x5)) then (some (Bf.rt false))
  else (some (Bf.go ()))
def m_is_ring (thing1 : (List (Int × Int))) : Option Bool :=
  Option.bind (if (!true) then some true else (some (!((decide ((3 : Int) ≤ (thing1.length : Int))) && (decide ((thing1.length : Int) ≤ (8 : Int))))))) fun x1 =>
  if x1 then (some false)
  else (Option.bind (forL (m_is_ring_b1) thing1 ()) fun res => match res with
  | Fl.rt r => some r
  | Fl.nx _ => Option.bind (rngM (thing1.length : Int)) fun xs1 =>
  Option.bind (forL (m_is_ring_b2 thing1) xs1 ()) fun res => match res with
  | Fl.rt r => some r
  | Fl.nx _ => some true)

def m_outline_of_b1 : (Unit) → (Int × (List (Int × Int))) → Option (Bf (Unit) (List (List (Int × Int)))) := fun s x => match s, x with
  | _, (k4, x2) => Option.bind (m_is_ring x2) fun r2 =>
  if (!r2) then (none)
  else (some (Bf.go ()))
def m_outline_of_c3 : ((List (Int × Int))) → (Int × Int) → Option ((List (Int × Int))) := fun acc7 x5 => Option.bind (appM acc7 x5) fun acc8 =>
  some acc8
def m_outline_of_c2 : ((List (List (Int × Int)))) → (List (Int × Int)) → Option ((List (List (Int × Int)))) := fun acc5 x4 => Option.bind (folM (m_outline_of_c3) x4 ([] : (List (Int × Int)))) fun acc6 =>
  Option.bind (appM acc5 acc6) fun acc9 =>
  some acc9
def m_outline_of (letter1 : Wrd) (thing1 : (List (List (Int × Int)))) : Option (List (List (Int × Int))) :=
  Option.bind (if (!true) then some true else (some (!((decide ((1 : Int) ≤ (thing1.length : Int))) && (decide ((thing1.length : Int) ≤ (3 : Int))))))) fun x1 =>
  if x1 then (none)
  else (Option.bind (forL (m_outline_of_b1) (enumM thing1) ()) fun res => match res with
  | Fl.rt r => some r
  | Fl.nx _ => Option.bind (folM (m_outline_of_c2) thing1 ([] : (List (List (Int × Int))))) fun acc4 =>
  some acc4)

def m_count_of (start1 : (Int × Int)) (stop1 : (Int × Int)) (x1 : Int) (y1 : Int) : Option Int :=
  Option.bind (if (decide (start1.2 ≤ stop1.2)) then (some (start1, stop1)) else (some (stop1, start1))) fun x2 =>
  if ((decide (x2.1.2 > y1)) || (decide (x2.2.2 < (y1 + (1 : Int))))) then (some (0 : Int))
  else (Option.bind (mulM ((2 : Int) * x2.1.1) (x2.2.2 - x2.1.2)) fun x3 =>
  Option.bind (mulM (x2.2.1 - x2.1.1) ((((2 : Int) * y1) + (1 : Int)) - ((2 : Int) * x2.1.2))) fun x4 =>
  Option.bind (mulM (((2 : Int) * x1) + (1 : Int)) (x2.2.2 - x2.1.2)) fun x5 =>
  if (decide ((x3 + x4) ≤ x5)) then (some (0 : Int))
  else (some (if (decide (stop1.2 > start1.2)) then (1 : Int) else (-(1 : Int)))))

def m_winding_b2 (x1 : Int) (y1 : Int) : (Int) → ((Int × Int) × (Int × Int)) → Option (Int) := fun s x => match s, x with
  | total4, (x3, x4) => Option.bind (m_count_of x3 x4 x1 y1) fun r1 =>
  some (total4 + r1)
def m_winding_b1 (x1 : Int) (y1 : Int) : (Int) → (List (Int × Int)) → Option (Int) := fun total2 x2 => Option.bind (folM (m_winding_b2 x1 y1) (sidesM x2) total2) fun total3 =>
  some total3
def m_winding (rings1 : (List (List (Int × Int)))) (x1 : Int) (y1 : Int) : Option Int :=
  Option.bind (folM (m_winding_b1 x1 y1) rings1 (0 : Int)) fun total1 =>
  some total1

def m_ink_of_c2 (rings1 : (List (List (Int × Int)))) (x1 : Int) : ((List Ink)) → Int → Option ((List Ink)) := fun acc2 x3 => Option.bind (Option.bind (m_winding rings1 x3 x1) fun r3 =>
  if (!decide (r3 = (0 : Int))) then (some ([true] : Ink)) else (some ([false] : Ink))) fun x4 =>
  Option.bind (appM acc2 x4) fun acc3 =>
  some acc3
def m_ink_of_b1 (rings1 : (List (List (Int × Int)))) : ((List Ink)) → Int → Option ((List Ink)) := fun found2 x1 => Option.bind (rngM (4 : Int)) fun xs2 =>
  Option.bind (folM (m_ink_of_c2 rings1 x1) xs2 ([] : (List Ink))) fun acc1 =>
  Option.bind (joinI acc1) fun k5 =>
  Option.bind (appM found2 k5) fun found3 =>
  some found3
def m_ink_of (rings1 : (List (List (Int × Int)))) : Option (List Ink) :=
  Option.bind (rngM (4 : Int)) fun xs1 =>
  Option.bind (folM (m_ink_of_b1 rings1) xs1 ([] : List Ink)) fun found1 =>
  some found1

def m_leftmost (ink1 : (List Ink)) (row1 : Int) : Option (Option Int) :=
  Option.bind (getM ink1 row1) fun x1 =>
  Option.bind (fndM x1) fun k1 =>
  Option.bind (if (decide (k1 < (0 : Int))) then (some (none : (Option Int))) else (some (some k1))) fun x2 =>
  some x2

def m_rightmost (ink1 : (List Ink)) (row1 : Int) : Option (Option Int) :=
  Option.bind (getM ink1 row1) fun x1 =>
  Option.bind (rfnM x1) fun k1 =>
  Option.bind (if (decide (k1 < (0 : Int))) then (some (none : (Option Int))) else (some (some k1))) fun x2 =>
  some x2

def m_blanks (left1 : (List Ink)) (right1 : (List Ink)) (row1 : Int) (gap1 : Int) : Option (Option Int) :=
  Option.bind (m_rightmost left1 row1) fun r1 =>
  Option.bind (m_leftmost right1 row1) fun r2 =>
  if ((r1.isNone) || (r2.isNone)) then (some (none : (Option Int)))
  else (Option.bind (m_step_of left1) fun r3 =>
  Option.bind (r2) fun j1 =>
  Option.bind (r1) fun j2 =>
  some (some ((((r3 + gap1) + j1) - j2) - (1 : Int))))

def m_bad_count (outlines1 : (List (List (List (Int × Int))))) (apart1 : Int) : Option (Option (List Int)) :=
  if (!((decide ((1 : Int) ≤ (outlines1.length : Int))) && (decide ((outlines1.length : Int) ≤ (4 : Int))))) then (some (some ([(outlines1.length : Int)] : List Int)))
  else (if (!((decide ((0 : Int) ≤ apart1)) && (decide (apart1 ≤ (2 : Int))))) then (some (some ([apart1] : List Int)))
  else (some (none : (Option (List Int)))))

def m_row_that_bars_b1 (left1 : (List Ink)) (right1 : (List Ink)) (gap1 : Int) (apart1 : Int) : (Unit) → Int → Option (Bf (Unit) (Option Int)) := fun _ x1 => Option.bind (m_blanks left1 right1 x1 gap1) fun r1 =>
  Option.bind (if (!r1.isNone) then (Option.bind (r1) fun j1 =>
  some (decide (j1 < apart1))) else some false) fun x2 =>
  if x2 then (some (Bf.rt (some x1)))
  else (some (Bf.go ()))
def m_row_that_bars (left1 : (List Ink)) (right1 : (List Ink)) (gap1 : Int) (apart1 : Int) : Option (Option Int) :=
  Option.bind (rngM (4 : Int)) fun xs1 =>
  Option.bind (forL (m_row_that_bars_b1 left1 right1 gap1 apart1) xs1 ()) fun res => match res with
  | Fl.rt r => some r
  | Fl.nx _ => some (none : (Option Int))

def m_Face_gap_and_bar_b1 (self1 : Int) (left1 : (List Ink)) (right1 : (List Ink)) : (Int × (Option Int)) → Option (Bf (Int × (Option Int)) (Int × (Option Int))) := fun s => match s with
  | (gap2, bar2) => Option.bind (m_row_that_bars left1 right1 gap2 self1) fun r1 =>
  if (!r1.isNone) then (some (Bf.go ((gap2 + (1 : Int)), r1)))
  else (some (Bf.bk (gap2, bar2)))
def m_Face_gap_and_bar (self1 : Int) (left1 : (List Ink)) (right1 : (List Ink)) : Option (Int × (Option Int)) :=
  Option.bind (whL (m_Face_gap_and_bar_b1 self1 left1 right1) 1000000 ((0 : Int), (none : (Option Int)))) fun res => match res with
  | Fl.rt r => some r
  | Fl.nx (gap1, bar1) => some (gap1, bar1)

def m_Face___init___b1 : ((List (List Ink))) → (Wrd × (List (List (Int × Int)))) → Option (Bf ((List (List Ink))) Face) := fun s x => match s, x with
  | found2, (x1, x2) => Option.bind (m_outline_of x1 x2) fun r2 =>
  Option.bind (m_ink_of r2) fun r3 =>
  Option.bind (m_step_of r3) fun r4 =>
  if (decide (r4 = (0 : Int))) then (none)
  else (Option.bind (appM found2 r3) fun found3 =>
  some (Bf.go found3))
def m_Face___init___b3 (apart1 : Int) (x3 : Wrd) (x4 : (List Ink)) : ((List (Wrd × (Int × (Option Int))))) → (Wrd × (List Ink)) → Option ((List (Wrd × (Int × (Option Int))))) := fun s x => match s, x with
  | d_gaps_and_bars4, (x5, x6) => Option.bind (m_Face_gap_and_bar apart1 x4 x6) fun r5 =>
  Option.bind (catT x3 x5) fun t1 =>
  Option.bind (putWM d_gaps_and_bars4 t1 r5) fun kvs1 =>
  some kvs1
def m_Face___init___b2 (apart1 : Int) (found1 : (List (List Ink))) : ((List (Wrd × (Int × (Option Int))))) → (Wrd × (List Ink)) → Option ((List (Wrd × (Int × (Option Int))))) := fun s x => match s, x with
  | d_gaps_and_bars2, (x3, x4) => Option.bind (folM (m_Face___init___b3 apart1 x3 x4) (List.zip (sgT ([97, 98, 99, 100] : Wrd)) found1) d_gaps_and_bars2) fun d_gaps_and_bars3 =>
  some d_gaps_and_bars3
def m_Face___init__ (outlines1 : (List (List (List (Int × Int))))) (apart1 : Int) : Option Face :=
  Option.bind (m_bad_count outlines1 apart1) fun r1 =>
  if (!r1.isNone) then (none)
  else (Option.bind (forL (m_Face___init___b1) (List.zip (sgT ([97, 98, 99, 100] : Wrd)) outlines1) ([] : List (List Ink))) fun res => match res with
  | Fl.rt r => some r
  | Fl.nx found1 => Option.bind (folM (m_Face___init___b2 apart1 found1) (List.zip (sgT ([97, 98, 99, 100] : Wrd)) found1) ([] : (List (Wrd × (Int × (Option Int)))))) fun d_gaps_and_bars1 =>
  some (Face.mk apart1 found1 d_gaps_and_bars1))

def m_law_bag_b1 : (Int) → (Int × Int) → Option (Int) := fun s x => match s, x with
  | mixed2, (k3, x4) => some ((((mixed2 * (16807 : Int)) + (x4 % (2147483629 : Int))) + ((13 : Int) * k3)) % (2147483647 : Int))
def m_law_bag (script1 : (List Int)) (at1 : Int) : Option (List Int) :=
  Option.bind (if (decide (at1 < (script1.length : Int))) then (Option.bind (getM script1 at1) fun x1 =>
  some (if x1 < 0 then -x1 else x1)) else (some (0 : Int))) fun x2 =>
  Option.bind (folM (m_law_bag_b1) (enumM (cutM script1 none (some (63 : Int)))) ((1009 : Int) + ((77 : Int) * at1))) fun mixed1 =>
  some ([(if (decide (x2 ≥ ((10 : Int) ^ (18 : Int).toNat))) then x2 else (0 : Int)), mixed1, (0 : Int)] : List Int)

def m_law_draw (bag_here1 : (List Int)) (many1 : Int) : Option (Int × (List Int)) :=
  Option.bind (getM bag_here1 (0 : Int)) fun x1 =>
  if (decide (x1 > (0 : Int))) then (Option.bind (getM bag_here1 (0 : Int)) fun x2 =>
  Option.bind (modM x2 many1) fun x3 =>
  Option.bind (getM bag_here1 (0 : Int)) fun x4 =>
  Option.bind (fdivM x4 many1) fun x5 =>
  Option.bind (setM bag_here1 (0 : Int) x5) fun bag_here2 =>
  some (x3, bag_here2))
  else (Option.bind (getM bag_here1 (2 : Int)) fun x6 =>
  Option.bind (setM bag_here1 (2 : Int) (x6 + (1 : Int))) fun bag_here3 =>
  Option.bind (getM bag_here3 (1 : Int)) fun x7 =>
  Option.bind (getM bag_here3 (2 : Int)) fun x8 =>
  Option.bind (setM bag_here3 (1 : Int) ((((x7 * (48271 : Int)) + ((11 : Int) * x8)) + (7 : Int)) % (2147483647 : Int))) fun bag_here4 =>
  Option.bind (getM bag_here4 (1 : Int)) fun x9 =>
  Option.bind (getM bag_here4 (2 : Int)) fun x10 =>
  Option.bind (modM ((((x9 * (69621 : Int)) + ((4099 : Int) * x10)) % (2147483629 : Int)) / (128 : Int)) many1) fun x11 =>
  some (x11, bag_here4))

def m_law_one (bag_here1 : (List Int)) (things1 : (List Wrd)) : Option (Wrd × (List Int)) :=
  Option.bind (m_law_draw bag_here1 (things1.length : Int)) fun (r1, bag_here2) =>
  Option.bind (getM things1 r1) fun x1 =>
  some (x1, bag_here2)

def m_law_one__1 (bag_here1 : (List Int)) (things1 : (List TxO)) : Option (TxO × (List Int)) :=
  Option.bind (m_law_draw bag_here1 (things1.length : Int)) fun (r1, bag_here2) =>
  Option.bind (getM things1 r1) fun x1 =>
  some (x1, bag_here2)

def m_law_number (thing1 : Int) : Option Bool :=
  some (true && (!false))

def m_law_box (bag_here1 : (List Int)) (wide1 : Int) : Option ((List (Int × Int)) × (List Int)) :=
  Option.bind (m_law_draw bag_here1 wide1) fun (r1, bag_here2) =>
  Option.bind (m_law_draw bag_here2 (4 : Int)) fun (r2, bag_here3) =>
  Option.bind (m_law_draw bag_here3 (wide1 - r1)) fun (r3, bag_here4) =>
  Option.bind (m_law_draw bag_here4 ((4 : Int) - r2)) fun (r4, bag_here5) =>
  some (([(r1, r2), (((r1 + (1 : Int)) + r3), r2), (((r1 + (1 : Int)) + r3), ((r2 + (1 : Int)) + r4)), (r1, ((r2 + (1 : Int)) + r4))] : List (Int × Int)), bag_here5)

def m_law_outlines_b1 (wide1 : Int) : ((List Int) × (List (List (List (Int × Int))))) → Int → Option ((List Int) × (List (List (List (Int × Int))))) := fun s x1 => match s with
  | (bag_here3, found2) => Option.bind (m_law_box bag_here3 wide1) fun (r1, bag_here4) =>
  Option.bind (Option.bind (m_law_draw bag_here4 (2 : Int)) fun (r4, bag_here8) =>
  if (decide (r4 = (1 : Int))) then (Option.bind (m_law_box bag_here8 wide1) fun (r5, bag_here9) =>
  Option.bind (appM ([r1] : List (List (Int × Int))) r5) fun rings3 =>
  some (bag_here9, rings3))
  else (some (bag_here8, ([r1] : List (List (Int × Int)))))) fun (bag_here7, rings2) =>
  Option.bind (appM found2 rings2) fun found3 =>
  some (bag_here7, found3)
def m_law_outlines (bag_here1 : (List Int)) (many1 : Int) (wide1 : Int) : Option ((List (List (List (Int × Int)))) × (List Int)) :=
  Option.bind (rngM many1) fun xs1 =>
  Option.bind (folM (m_law_outlines_b1 wide1) xs1 (bag_here1, ([] : List (List (List (Int × Int)))))) fun (bag_here2, found1) =>
  some (found1, bag_here2)

def m_law_ink_c3 (x1 : Int) (x2 : Int) : ((List (List (Int × Int)))) → (List (Int × Int)) → Option ((List (List (Int × Int)))) := fun acc2 x24 => Option.bind (Option.bind (getM x24 (0 : Int)) fun x26 =>
  Option.bind (if (decide (x26.1 ≤ x2)) then (Option.bind (getM x24 (2 : Int)) fun x29 =>
  some (decide (x2 < x29.1))) else some false) fun x27 =>
  if x27 then (Option.bind (getM x24 (0 : Int)) fun x31 =>
  Option.bind (if (decide (x31.2 ≤ x1)) then (Option.bind (getM x24 (2 : Int)) fun x34 =>
  some (decide (x1 < x34.2))) else some false) fun x32 =>
  some x32) else some false) fun x35 =>
  if x35 then (Option.bind (appM acc2 x24) fun acc3 =>
  some acc3)
  else (some acc2)
def m_law_ink_b2 (rings1 : (List (List (Int × Int)))) (x1 : Int) : (Ink) → Int → Option (Ink) := fun cells2 x2 => Option.bind (folM (m_law_ink_c3 x1 x2) rings1 ([] : (List (List (Int × Int))))) fun acc1 =>
  Option.bind (catI cells2 (if (!decide (acc1 = ([] : (List (List (Int × Int)))))) then ([true] : Ink) else ([false] : Ink))) fun k11 =>
  some k11
def m_law_ink_b1 (rings1 : (List (List (Int × Int)))) : ((List Ink)) → Int → Option ((List Ink)) := fun found2 x1 => Option.bind (rngM (4 : Int)) fun xs2 =>
  Option.bind (folM (m_law_ink_b2 rings1 x1) xs2 ([] : Ink)) fun cells1 =>
  Option.bind (appM found2 cells1) fun found3 =>
  some found3
def m_law_ink (rings1 : (List (List (Int × Int)))) : Option (List Ink) :=
  Option.bind (rngM (4 : Int)) fun xs1 =>
  Option.bind (folM (m_law_ink_b1 rings1) xs1 ([] : List Ink)) fun found1 =>
  some found1

def m_law_step_c1 : ((List Int)) → Ink → Option ((List Int)) := fun acc2 x1 => Option.bind (rfnM x1) fun k3 =>
  Option.bind (appM acc2 k3) fun acc3 =>
  some acc3
def m_law_step (ink_here1 : (List Ink)) : Option Int :=
  Option.bind (folM (m_law_step_c1) ink_here1 ([] : (List Int))) fun acc1 =>
  Option.bind (maxM acc1) fun x2 =>
  some (x2 + (1 : Int))

def m_law_gap_b1 (left1 : (List Ink)) (right1 : (List Ink)) (apart1 : Int) : ((List Int)) → Int → Option ((List Int)) := fun short2 x1 => Option.bind (getM left1 x1) fun x2 =>
  Option.bind (m_law_step left1) fun r1 =>
  Option.bind (cutI x2 none (some r1)) fun k6 =>
  Option.bind (getM right1 x1) fun x3 =>
  Option.bind (if ((decide (true ∈ k6)) && (decide (true ∈ x3))) then (Option.bind (lenI k6) fun k13 =>
  Option.bind (rstM k6) fun k14 =>
  Option.bind (lenI k14) fun k15 =>
  Option.bind (lenI x3) fun k16 =>
  Option.bind (lstM x3) fun k17 =>
  Option.bind (lenI k17) fun k18 =>
  Option.bind (appM short2 (apart1 - (((k13 - k15) + k16) - k18))) fun short5 =>
  some short5)
  else (some short2)) fun short4 =>
  some short4
def m_law_gap (left1 : (List Ink)) (right1 : (List Ink)) (apart1 : Int) : Option Int :=
  Option.bind (rngM (4 : Int)) fun xs1 =>
  Option.bind (folM (m_law_gap_b1 left1 right1 apart1) xs1 ([(0 : Int)] : List Int)) fun short1 =>
  Option.bind (maxM short1) fun x4 =>
  some x4

def m_law_table_c2 (apart1 : Int) (x2 : (List Ink)) : ((List Int)) → (List Ink) → Option ((List Int)) := fun acc7 x3 => Option.bind (m_law_gap x2 x3 apart1) fun r4 =>
  Option.bind (appM acc7 r4) fun acc8 =>
  some acc8
def m_law_table_c1 (inks1 : (List (List Ink))) (apart1 : Int) : ((List (List Int))) → (List Ink) → Option ((List (List Int))) := fun acc5 x2 => Option.bind (folM (m_law_table_c2 apart1 x2) inks1 ([] : (List Int))) fun acc6 =>
  Option.bind (appM acc5 acc6) fun acc9 =>
  some acc9
def m_law_table (inks1 : (List (List Ink))) (apart1 : Int) : Option (List (List Int)) :=
  Option.bind (folM (m_law_table_c1 inks1 apart1) inks1 ([] : (List (List Int)))) fun acc4 =>
  some acc4

def m_law_columns_b1 (inks1 : (List (List Ink))) (table_here1 : (List (List Int))) (word_here1 : Wrd) : ((List Int)) → Int → Option ((List Int)) := fun found2 x1 => Option.bind (getT word_here1 (x1 - (1 : Int))) fun t1 =>
  Option.bind (idxA ([97, 98, 99, 100] : Wrd) t1) fun k6 =>
  Option.bind (getT word_here1 x1) fun t2 =>
  Option.bind (idxA ([97, 98, 99, 100] : Wrd) t2) fun k7 =>
  Option.bind (getM found2 (-(1 : Int))) fun x2 =>
  Option.bind (getM inks1 k6) fun x3 =>
  Option.bind (m_law_step x3) fun r1 =>
  Option.bind (getM table_here1 k6) fun x5 =>
  Option.bind (getM x5 k7) fun x6 =>
  Option.bind (appM found2 ((x2 + r1) + x6)) fun found3 =>
  some found3
def m_law_columns (inks1 : (List (List Ink))) (table_here1 : (List (List Int))) (word_here1 : Wrd) : Option (List Int) :=
  Option.bind (lenT word_here1) fun k1 =>
  Option.bind (rng2M (1 : Int) k1) fun xs1 =>
  Option.bind (folM (m_law_columns_b1 inks1 table_here1 word_here1) xs1 ([(0 : Int)] : List Int)) fun found1 =>
  some found1

def m_law_word_b1 (many1 : Int) : ((List Int) × Wrd) → Int → Option ((List Int) × Wrd) := fun s x1 => match s with
  | (bag_here4, word_here2) => Option.bind (m_law_draw bag_here4 many1) fun (r2, bag_here5) =>
  Option.bind (getT ([97, 98, 99, 100] : Wrd) r2) fun t1 =>
  Option.bind (catT word_here2 t1) fun t2 =>
  some (bag_here5, t2)
def m_law_word (bag_here1 : (List Int)) (many1 : Int) (most1 : Int) : Option (Wrd × (List Int)) :=
  Option.bind (m_law_draw bag_here1 most1) fun (r1, bag_here2) =>
  Option.bind (rngM ((1 : Int) + r1)) fun xs1 =>
  Option.bind (folM (m_law_word_b1 many1) xs1 (bag_here2, ([] : Wrd))) fun (bag_here3, word_here1) =>
  some (word_here1, bag_here3)

def m_law_refusals_stand (face1 : Face) (wrong1 : TxO) : Option Bool :=
  Option.bind (Option.bind (m_is_word__1 face1 wrong1) fun r1 =>
  if (!decide (r1 = false)) then some (true, ()) else (Option.bind (m_columns__1 face1 wrong1) fun rs2 =>
  Option.bind (m_law_refused rs2 (toA wrong1)) fun told2 =>
  some ((!told2), ()))) fun (x1, tab1) =>
  if x1 then (some false)
  else (Option.bind (m_width__1 face1 wrong1) fun rs6 =>
  Option.bind (m_law_refused rs6 (toA wrong1)) fun told6 =>
  if (!told6) then (some false)
  else (Option.bind (m_stamps__1 face1 wrong1) fun rs7 =>
  Option.bind (m_law_refused rs7 (toA wrong1)) fun told7 =>
  some told7))

def m_law_wrong_word (bag_here1 : (List Int)) (many1 : Int) : Option (TxO × (List Int)) :=
  Option.bind (m_law_word bag_here1 many1 (39 : Int)) fun (r1, bag_here2) =>
  Option.bind (lenT r1) fun k1 =>
  Option.bind (m_law_draw bag_here2 (k1 + (1 : Int))) fun (r2, bag_here3) =>
  Option.bind (cutT ([97, 98, 99, 100] : Wrd) (some many1) none) fun t2 =>
  Option.bind (lsTx t2) fun z3 =>
  Option.bind (catM z3 ([([101] : Wrd), ([65] : Wrd), ([32] : Wrd), ([35] : Wrd), ([48] : Wrd), ([122] : Wrd)] : List Wrd)) fun z4 =>
  Option.bind (m_law_one bag_here3 z4) fun (r3, bag_here4) =>
  Option.bind (catT r1 r1) fun t3 =>
  Option.bind (mulT ([97] : Wrd) (40 : Int)) fun t4 =>
  Option.bind (catT t3 t4) fun t5 =>
  Option.bind (m_law_draw bag_here4 (3 : Int)) fun (r4, bag_here5) =>
  Option.bind (cutT t5 none (some ((41 : Int) + r4))) fun t6 =>
  Option.bind (lsTx r1) fun z5 =>
  Option.bind (Option.bind (m_law_draw bag_here5 (2 : Int)) fun (r5, bag_here6) =>
  if (decide (r5 = (0 : Int))) then (Option.bind (cutT r1 none (some r2)) fun t7 =>
  Option.bind (catT t7 r3) fun t8 =>
  Option.bind (cutT r1 (some r2) none) fun t9 =>
  Option.bind (catT t8 t9) fun t10 =>
  some ((Sum.inl t10 : TxO), bag_here6)) else (Option.bind (m_law_one__1 bag_here6 ([(Sum.inl ([] : Wrd) : TxO), (Sum.inr PyData.none : TxO), (Sum.inr (PyData.int (0 : Int)) : TxO), (Sum.inr (PyData.int (7 : Int)) : TxO), (Sum.inr (PyData.list (([([97] : Wrd)] : List Wrd).map fun z => (PyData.str (e_T z)))) : TxO), (Sum.inr (PyData.tuple [(PyData.str (e_T (([97] : Wrd), ([97] : Wrd)).1)), (PyData.str (e_T (([97] : Wrd), ([97] : Wrd)).2))]) : TxO), (Sum.inl t6 : TxO), (Sum.inr (PyData.list (z5.map fun z => (PyData.str (e_T z)))) : TxO)] : List TxO)) fun (r6, bag_here7) =>
  some (r6, bag_here7))) fun (x1, bag_here8) =>
  some (x1, bag_here8)

def m_law_word_stands_c1 : ((List Bool)) → Int → Option ((List Bool)) := fun acc23 x13 => Option.bind (m_law_number x13) fun r20 =>
  Option.bind (appM acc23 r20) fun acc24 =>
  some acc24
def m_law_word_stands_b2 (inks1 : (List (List Ink))) (word_here1 : Wrd) (r1 : (List Int)) : (Unit) → (Int × ((List Ink) × Int)) → Option (Bf (Unit) Bool) := fun s x => match s, x with
  | _, (k16, x20) => Option.bind (if (!true) then some true else (Option.bind (getT word_here1 k16) fun t3 =>
  Option.bind (idxA ([97, 98, 99, 100] : Wrd) t3) fun k17 =>
  Option.bind (getM inks1 k17) fun x21 =>
  Option.bind (getM r1 k16) fun x22 =>
  some (!decide (x20 = (x21, x22))))) fun x23 =>
  if x23 then (some (Bf.rt false))
  else (some (Bf.go ()))
def m_law_word_stands (face1 : Face) (inks1 : (List (List Ink))) (table_here1 : (List (List Int))) (word_here1 : Wrd) : Option Bool :=
  Option.bind (m_law_columns inks1 table_here1 word_here1) fun r1 =>
  Option.bind (m_columns face1 word_here1) fun r2 =>
  Option.bind (m_width face1 word_here1) fun r3 =>
  Option.bind (m_stamps face1 word_here1) fun r4 =>
  Option.bind (if (!true) then some true else (if (!decide (r2 = r1)) then some true else (Option.bind (Option.bind (folM (m_law_word_stands_c1) r2 ([] : (List Bool))) fun acc7 =>
  some (acc7.all id)) fun x5 =>
  some (!x5)))) fun x7 =>
  if x7 then (some false)
  else (Option.bind (Option.bind (m_law_number r3) fun r22 =>
  if (!r22) then some true else (Option.bind (getM r1 (-(1 : Int))) fun x14 =>
  Option.bind (getT word_here1 (-(1 : Int))) fun t1 =>
  Option.bind (idxA ([97, 98, 99, 100] : Wrd) t1) fun k9 =>
  Option.bind (getM inks1 k9) fun x15 =>
  Option.bind (m_law_step x15) fun r23 =>
  some (!decide (r3 = (x14 + r23))))) fun x16 =>
  if x16 then (some false)
  else (Option.bind (if (!true) then some true else (Option.bind (lenT word_here1) fun k11 =>
  if (!decide ((r4.length : Int) = k11)) then some true else (Option.bind (m_is_word face1 word_here1) fun r27 =>
  some (!decide (r27 = true))))) fun x19 =>
  if x19 then (some false)
  else (Option.bind (forL (m_law_word_stands_b2 inks1 word_here1 r1) (enumM r4) ()) fun res => match res with
  | Fl.rt r => some r
  | Fl.nx _ => Option.bind (appM r2 (0 : Int)) fun told1 =>
  Option.bind (m_columns face1 word_here1) fun r29 =>
  some (decide (r29 = r1)))))

def m_law_cut_stands_c1 (place1 : Int) (r1 : (List Int)) : ((List Int)) → Int → Option ((List Int)) := fun acc2 x2 => Option.bind (getM r1 place1) fun x3 =>
  Option.bind (appM acc2 (x3 + x2)) fun acc3 =>
  some acc3
def m_law_cut_stands (face1 : Face) (word_here1 : Wrd) (place1 : Int) : Option Bool :=
  Option.bind (m_columns face1 word_here1) fun r1 =>
  Option.bind (cutT word_here1 (some place1) none) fun t2 =>
  Option.bind (m_columns face1 t2) fun r2 =>
  Option.bind (cutT word_here1 none (some (place1 + (1 : Int)))) fun t4 =>
  Option.bind (m_columns face1 t4) fun r3 =>
  if (!decide (r3 = (cutM r1 none (some (place1 + (1 : Int)))))) then (some false)
  else (Option.bind (folM (m_law_cut_stands_c1 place1 r1) r2 ([] : (List Int))) fun acc1 =>
  some (decide (acc1 = (cutM r1 (some place1) none))))

def m_law_c3 : ((List (List Ink))) → (List (List (Int × Int))) → Option ((List (List Ink))) := fun acc2 x3 => Option.bind (m_law_ink x3) fun r6 =>
  Option.bind (appM acc2 r6) fun acc3 =>
  some acc3
def m_law_b2 : ((List Int) × (List (Face × (List (List Ink)) × (List (List Int))))) → Int → Option ((List Int) × (List (Face × (List (List Ink)) × (List (List Int))))) := fun s x2 => match s with
  | (bag_here2, made2) => Option.bind (m_law_draw bag_here2 (4 : Int)) fun (r2, bag_here3) =>
  Option.bind (m_law_draw bag_here3 (3 : Int)) fun (r3, bag_here4) =>
  Option.bind (m_law_outlines bag_here4 ((1 : Int) + r2) (4 : Int)) fun (r4, bag_here5) =>
  Option.bind (folM (m_law_c3) r4 ([] : (List (List Ink)))) fun acc1 =>
  Option.bind (m_Face___init__ r4 r3) fun r7 =>
  Option.bind (m_law_table acc1 r3) fun r8 =>
  Option.bind (appM made2 (r7, acc1, r8)) fun made3 =>
  some (bag_here5, made3)
def m_law_b5 (x4 : Int) : ((List Int)) → (Face × (List (List Ink)) × (List (List Int))) → Option (Bf ((List Int)) Bool) := fun bag_here9 x5 => Option.bind (m_law_word bag_here9 (x5.2.1.length : Int) (if (decide (x4 < (2 : Int))) then (6 : Int) else (40 : Int))) fun (r9, bag_here10) =>
  Option.bind (m_law_word_stands x5.1 x5.2.1 x5.2.2 r9) fun r11 =>
  if (!r11) then (some (Bf.rt false))
  else (Option.bind (lenT r9) fun k48 =>
  Option.bind (m_law_draw bag_here10 k48) fun (r14, bag_here12) =>
  Option.bind (m_law_cut_stands x5.1 r9 r14) fun r15 =>
  if (!r15) then (some (Bf.rt false))
  else (Option.bind (m_law_wrong_word bag_here12 (x5.2.1.length : Int)) fun (r18, bag_here14) =>
  Option.bind (m_law_refusals_stand x5.1 r18) fun r19 =>
  if (!r19) then (some (Bf.rt false))
  else (some (Bf.go bag_here14))))
def m_law_b4 (made1 : (List (Face × (List (List Ink)) × (List (List Int))))) : ((List Int)) → Int → Option (Bf ((List Int)) Bool) := fun bag_here7 x4 => Option.bind (forL (m_law_b5 x4) made1 bag_here7) fun res => match res with
  | Fl.rt r => some (Bf.rt r)
  | Fl.nx bag_here8 => some (Bf.go bag_here8)
def m_law_b1 (script1 : (List Int)) : (Unit) → Int → Option (Bf (Unit) Bool) := fun _ x1 => Option.bind (m_law_bag script1 x1) fun r1 =>
  Option.bind (rngM (2 : Int)) fun xs2 =>
  Option.bind (folM (m_law_b2) xs2 (r1, ([] : List (Face × (List (List Ink)) × (List (List Int)))))) fun (bag_here1, made1) =>
  Option.bind (rngM (4 : Int)) fun xs3 =>
  Option.bind (forL (m_law_b4 made1) xs3 bag_here1) fun res => match res with
  | Fl.rt r => some (Bf.rt r)
  | Fl.nx bag_here6 => some (Bf.go ())
def m_law (script1 : (List Int)) : Option Bool :=
  Option.bind (rngM (if (if (script1.length : Int) < (2 : Int) then (script1.length : Int) else (2 : Int)) > (1 : Int) then (if (script1.length : Int) < (2 : Int) then (script1.length : Int) else (2 : Int)) else (1 : Int))) fun xs1 =>
  Option.bind (forL (m_law_b1 script1) xs1 ()) fun res => match res with
  | Fl.rt r => some r
  | Fl.nx _ => some true
end Mr

set_option Elab.async false
set_option linter.all false
set_option maxRecDepth 100000
set_option maxHeartbeats 4000000
set_option synthInstance.maxSize 4000
set_option synthInstance.maxHeartbeats 400000
namespace Mr
open PySem PySem.Spec PyProof.Rows L2
def clsX (i : Nat) (s : Stmt) : Stmt := match s with
  | .ClassDef _ _ _ body _ _ _ _ _ _ _ => body.getD i (.Pass ⟨0, 0, 0, 0⟩)
  | s => s
def top (i : Nat) : Stmt := PySem.Challenge.pw_pressalike_k05_columns_widths_and_stamps.main.body.getD i (.Pass ⟨0, 0, 0, 0⟩)
abbrev s_each_side : Stmt := top 22
abbrev s_law_refused : Stmt := top 50
def s_Face_letters : Stmt := clsX 3 (top 36)
abbrev s_is_word : Stmt := top 9
def s_Face_place_of : Stmt := clsX 4 (top 36)
def s_Face_told_pair : Stmt := clsX 7 (top 36)
def s_Face_gap : Stmt := clsX 8 (top 36)
abbrev s_step_of : Stmt := top 29
def s_Face_ink : Stmt := clsX 5 (top 36)
def s_Face_step : Stmt := clsX 6 (top 36)
abbrev s_columns : Stmt := top 10
abbrev s_width : Stmt := top 11
abbrev s_stamps : Stmt := top 12
abbrev s_is_number : Stmt := top 18
abbrev s_is_corner : Stmt := top 19
abbrev s_is_ring : Stmt := top 20
abbrev s_outline_of : Stmt := top 21
abbrev s_count_of : Stmt := top 23
abbrev s_winding : Stmt := top 24
abbrev s_ink_of : Stmt := top 26
abbrev s_leftmost : Stmt := top 27
abbrev s_rightmost : Stmt := top 28
abbrev s_blanks : Stmt := top 30
abbrev s_bad_count : Stmt := top 34
abbrev s_row_that_bars : Stmt := top 35
def s_Face_gap_and_bar : Stmt := clsX 1 (top 36)
def s_Face___init__ : Stmt := clsX 0 (top 36)
abbrev s_law_bag : Stmt := top 38
abbrev s_law_draw : Stmt := top 39
abbrev s_law_one : Stmt := top 40
abbrev s_law_number : Stmt := top 41
abbrev s_law_box : Stmt := top 42
abbrev s_law_outlines : Stmt := top 43
abbrev s_law_ink : Stmt := top 44
abbrev s_law_step : Stmt := top 45
abbrev s_law_gap : Stmt := top 46
abbrev s_law_table : Stmt := top 47
abbrev s_law_columns : Stmt := top 48
abbrev s_law_word : Stmt := top 49
abbrev s_law_refusals_stand : Stmt := top 51
abbrev s_law_wrong_word : Stmt := top 52
abbrev s_law_word_stands : Stmt := top 53
abbrev s_law_cut_stands : Stmt := top 54
abbrev s_law : Stmt := top 55
def s_x_BadWord : Stmt := clsX 0 (top 6)
def exR (K : PySem.W.Frag) (G : Hp) (c : Value) (d : Option Addr) : ExM → Prop
  | .BadWord x0 => c = .ref (He.ga K "BadWord") ∧ ∃ dd v0, d = some dd ∧ G dd = some (.xd [("word", v0)]) ∧ R.rel (rAny K) G v0 x0
structure Tx (K : PySem.W.Frag) (mg : Str → Option Value) where
  fd_each_side : FuncData
  F_each_side : FunD K "each_side" "each_side" (defArgs s_each_side) (defBody s_each_side) (defScope s_each_side) [] [] (He.fAd K ("each_side", none)) fd_each_side
  g_each_side : mg "each_side" = some (.ref (He.fAd K ("each_side", none)))
  b_each_side : Binds K fd_each_side ["ring"] []
  fd_law_refused : FuncData
  F_law_refused : FunD K "_law_refused" "_law_refused" (defArgs s_law_refused) (defBody s_law_refused) (defScope s_law_refused) [] [] (He.fAd K ("_law_refused", none)) fd_law_refused
  g_law_refused : mg "_law_refused" = some (.ref (He.fAd K ("_law_refused", none)))
  b_law_refused : Binds K fd_law_refused ["_law_ask", "_law_due"] []
  fd_Face_letters : FuncData
  F_Face_letters : FunD K "letters" "Face.letters" (defArgs s_Face_letters) (defBody s_Face_letters) (defScope s_Face_letters) [] [] (gAd K "Face" "letters") fd_Face_letters
  b_Face_letters : Binds K fd_Face_letters ["self"] []
  p_Face_letters : PropOf K (He.ga K "Face") "letters" (pAd K "Face" "letters") (gAd K "Face" "letters")
  fd_is_word : FuncData
  F_is_word : FunD K "is_word" "is_word" (defArgs s_is_word) (defBody s_is_word) (defScope s_is_word) [] [] (He.fAd K ("is_word", none)) fd_is_word
  g_is_word : mg "is_word" = some (.ref (He.fAd K ("is_word", none)))
  b_is_word : Binds K fd_is_word ["face", "word"] []
  fd_Face_place_of : FuncData
  F_Face_place_of : FunD K "place_of" "Face.place_of" (defArgs s_Face_place_of) (defBody s_Face_place_of) (defScope s_Face_place_of) [] [] (He.fAd K ("Face", some "place_of")) fd_Face_place_of
  b_Face_place_of : Binds K fd_Face_place_of ["self", "letter"] []
  m_Face_place_of : Meth K (He.ga K "Face") "place_of" (He.fAd K ("Face", some "place_of"))
  fd_Face_told_pair : FuncData
  F_Face_told_pair : FunD K "told_pair" "Face.told_pair" (defArgs s_Face_told_pair) (defBody s_Face_told_pair) (defScope s_Face_told_pair) [] [] (He.fAd K ("Face", some "told_pair")) fd_Face_told_pair
  b_Face_told_pair : Binds K fd_Face_told_pair ["self", "left", "right"] []
  m_Face_told_pair : Meth K (He.ga K "Face") "told_pair" (He.fAd K ("Face", some "told_pair"))
  fd_Face_gap : FuncData
  F_Face_gap : FunD K "gap" "Face.gap" (defArgs s_Face_gap) (defBody s_Face_gap) (defScope s_Face_gap) [] [] (He.fAd K ("Face", some "gap")) fd_Face_gap
  b_Face_gap : Binds K fd_Face_gap ["self", "left", "right"] []
  m_Face_gap : Meth K (He.ga K "Face") "gap" (He.fAd K ("Face", some "gap"))
  fd_step_of : FuncData
  F_step_of : FunD K "step_of" "step_of" (defArgs s_step_of) (defBody s_step_of) (defScope s_step_of) [] [] (He.fAd K ("step_of", none)) fd_step_of
  g_step_of : mg "step_of" = some (.ref (He.fAd K ("step_of", none)))
  b_step_of : Binds K fd_step_of ["ink"] []
  fd_Face_ink : FuncData
  F_Face_ink : FunD K "ink" "Face.ink" (defArgs s_Face_ink) (defBody s_Face_ink) (defScope s_Face_ink) [] [] (He.fAd K ("Face", some "ink")) fd_Face_ink
  b_Face_ink : Binds K fd_Face_ink ["self", "letter"] []
  m_Face_ink : Meth K (He.ga K "Face") "ink" (He.fAd K ("Face", some "ink"))
  fd_Face_step : FuncData
  F_Face_step : FunD K "step" "Face.step" (defArgs s_Face_step) (defBody s_Face_step) (defScope s_Face_step) [] [] (He.fAd K ("Face", some "step")) fd_Face_step
  b_Face_step : Binds K fd_Face_step ["self", "letter"] []
  m_Face_step : Meth K (He.ga K "Face") "step" (He.fAd K ("Face", some "step"))
  fd_columns : FuncData
  F_columns : FunD K "columns" "columns" (defArgs s_columns) (defBody s_columns) (defScope s_columns) [] [] (He.fAd K ("columns", none)) fd_columns
  g_columns : mg "columns" = some (.ref (He.fAd K ("columns", none)))
  b_columns : Binds K fd_columns ["face", "word"] []
  fd_width : FuncData
  F_width : FunD K "width" "width" (defArgs s_width) (defBody s_width) (defScope s_width) [] [] (He.fAd K ("width", none)) fd_width
  g_width : mg "width" = some (.ref (He.fAd K ("width", none)))
  b_width : Binds K fd_width ["face", "word"] []
  fd_stamps : FuncData
  F_stamps : FunD K "stamps" "stamps" (defArgs s_stamps) (defBody s_stamps) (defScope s_stamps) [] [] (He.fAd K ("stamps", none)) fd_stamps
  g_stamps : mg "stamps" = some (.ref (He.fAd K ("stamps", none)))
  b_stamps : Binds K fd_stamps ["face", "word"] []
  fd_is_number : FuncData
  F_is_number : FunD K "is_number" "is_number" (defArgs s_is_number) (defBody s_is_number) (defScope s_is_number) [] [] (He.fAd K ("is_number", none)) fd_is_number
  g_is_number : mg "is_number" = some (.ref (He.fAd K ("is_number", none)))
  b_is_number : Binds K fd_is_number ["thing"] []
  fd_is_corner : FuncData
  F_is_corner : FunD K "is_corner" "is_corner" (defArgs s_is_corner) (defBody s_is_corner) (defScope s_is_corner) [] [] (He.fAd K ("is_corner", none)) fd_is_corner
  g_is_corner : mg "is_corner" = some (.ref (He.fAd K ("is_corner", none)))
  b_is_corner : Binds K fd_is_corner ["thing"] []
  fd_is_ring : FuncData
  F_is_ring : FunD K "is_ring" "is_ring" (defArgs s_is_ring) (defBody s_is_ring) (defScope s_is_ring) [] [] (He.fAd K ("is_ring", none)) fd_is_ring
  g_is_ring : mg "is_ring" = some (.ref (He.fAd K ("is_ring", none)))
  b_is_ring : Binds K fd_is_ring ["thing"] []
  fd_outline_of : FuncData
  F_outline_of : FunD K "outline_of" "outline_of" (defArgs s_outline_of) (defBody s_outline_of) (defScope s_outline_of) [] [] (He.fAd K ("outline_of", none)) fd_outline_of
  g_outline_of : mg "outline_of" = some (.ref (He.fAd K ("outline_of", none)))
  b_outline_of : Binds K fd_outline_of ["letter", "thing"] []
  fd_count_of : FuncData
  F_count_of : FunD K "count_of" "count_of" (defArgs s_count_of) (defBody s_count_of) (defScope s_count_of) [] [] (He.fAd K ("count_of", none)) fd_count_of
  g_count_of : mg "count_of" = some (.ref (He.fAd K ("count_of", none)))
  b_count_of : Binds K fd_count_of ["start", "stop", "x", "y"] []
  fd_winding : FuncData
  F_winding : FunD K "winding" "winding" (defArgs s_winding) (defBody s_winding) (defScope s_winding) [] [] (He.fAd K ("winding", none)) fd_winding
  g_winding : mg "winding" = some (.ref (He.fAd K ("winding", none)))
  b_winding : Binds K fd_winding ["rings", "x", "y"] []
  fd_ink_of : FuncData
  F_ink_of : FunD K "ink_of" "ink_of" (defArgs s_ink_of) (defBody s_ink_of) (defScope s_ink_of) [] [] (He.fAd K ("ink_of", none)) fd_ink_of
  g_ink_of : mg "ink_of" = some (.ref (He.fAd K ("ink_of", none)))
  b_ink_of : Binds K fd_ink_of ["rings"] []
  fd_leftmost : FuncData
  F_leftmost : FunD K "leftmost" "leftmost" (defArgs s_leftmost) (defBody s_leftmost) (defScope s_leftmost) [] [] (He.fAd K ("leftmost", none)) fd_leftmost
  g_leftmost : mg "leftmost" = some (.ref (He.fAd K ("leftmost", none)))
  b_leftmost : Binds K fd_leftmost ["ink", "row"] []
  fd_rightmost : FuncData
  F_rightmost : FunD K "rightmost" "rightmost" (defArgs s_rightmost) (defBody s_rightmost) (defScope s_rightmost) [] [] (He.fAd K ("rightmost", none)) fd_rightmost
  g_rightmost : mg "rightmost" = some (.ref (He.fAd K ("rightmost", none)))
  b_rightmost : Binds K fd_rightmost ["ink", "row"] []
  fd_blanks : FuncData
  F_blanks : FunD K "blanks" "blanks" (defArgs s_blanks) (defBody s_blanks) (defScope s_blanks) [] [] (He.fAd K ("blanks", none)) fd_blanks
  g_blanks : mg "blanks" = some (.ref (He.fAd K ("blanks", none)))
  b_blanks : Binds K fd_blanks ["left", "right", "row", "gap"] []
  fd_bad_count : FuncData
  F_bad_count : FunD K "bad_count" "bad_count" (defArgs s_bad_count) (defBody s_bad_count) (defScope s_bad_count) [] [] (He.fAd K ("bad_count", none)) fd_bad_count
  g_bad_count : mg "bad_count" = some (.ref (He.fAd K ("bad_count", none)))
  b_bad_count : Binds K fd_bad_count ["outlines", "apart"] []
  fd_row_that_bars : FuncData
  F_row_that_bars : FunD K "row_that_bars" "row_that_bars" (defArgs s_row_that_bars) (defBody s_row_that_bars) (defScope s_row_that_bars) [] [] (He.fAd K ("row_that_bars", none)) fd_row_that_bars
  g_row_that_bars : mg "row_that_bars" = some (.ref (He.fAd K ("row_that_bars", none)))
  b_row_that_bars : Binds K fd_row_that_bars ["left", "right", "gap", "apart"] []
  fd_Face_gap_and_bar : FuncData
  F_Face_gap_and_bar : FunD K "gap_and_bar" "Face.gap_and_bar" (defArgs s_Face_gap_and_bar) (defBody s_Face_gap_and_bar) (defScope s_Face_gap_and_bar) [] [] (He.fAd K ("Face", some "gap_and_bar")) fd_Face_gap_and_bar
  b_Face_gap_and_bar : Binds K fd_Face_gap_and_bar ["self", "left", "right"] []
  m_Face_gap_and_bar : Meth K (He.ga K "Face") "gap_and_bar" (He.fAd K ("Face", some "gap_and_bar"))
  fd_Face___init__ : FuncData
  F_Face___init__ : FunD K "__init__" "Face.__init__" (defArgs s_Face___init__) (defBody s_Face___init__) (defScope s_Face___init__) [.int 1] [] (He.ma K (He.ga K "Face") "__init__") fd_Face___init__
  mk_Face : Mk K (He.ga K "Face") (He.ma K (He.ga K "Face") "__init__")
  fd_law_bag : FuncData
  F_law_bag : FunD K "_law_bag" "_law_bag" (defArgs s_law_bag) (defBody s_law_bag) (defScope s_law_bag) [] [] (He.fAd K ("_law_bag", none)) fd_law_bag
  g_law_bag : mg "_law_bag" = some (.ref (He.fAd K ("_law_bag", none)))
  b_law_bag : Binds K fd_law_bag ["_law_script", "_law_at"] []
  fd_law_draw : FuncData
  F_law_draw : FunD K "_law_draw" "_law_draw" (defArgs s_law_draw) (defBody s_law_draw) (defScope s_law_draw) [] [] (He.fAd K ("_law_draw", none)) fd_law_draw
  g_law_draw : mg "_law_draw" = some (.ref (He.fAd K ("_law_draw", none)))
  b_law_draw : Binds K fd_law_draw ["_law_bag_here", "_law_many"] []
  fd_law_one : FuncData
  F_law_one : FunD K "_law_one" "_law_one" (defArgs s_law_one) (defBody s_law_one) (defScope s_law_one) [] [] (He.fAd K ("_law_one", none)) fd_law_one
  g_law_one : mg "_law_one" = some (.ref (He.fAd K ("_law_one", none)))
  b_law_one : Binds K fd_law_one ["_law_bag_here", "_law_things"] []
  fd_law_number : FuncData
  F_law_number : FunD K "_law_number" "_law_number" (defArgs s_law_number) (defBody s_law_number) (defScope s_law_number) [] [] (He.fAd K ("_law_number", none)) fd_law_number
  g_law_number : mg "_law_number" = some (.ref (He.fAd K ("_law_number", none)))
  b_law_number : Binds K fd_law_number ["_law_thing"] []
  fd_law_box : FuncData
  F_law_box : FunD K "_law_box" "_law_box" (defArgs s_law_box) (defBody s_law_box) (defScope s_law_box) [] [] (He.fAd K ("_law_box", none)) fd_law_box
  g_law_box : mg "_law_box" = some (.ref (He.fAd K ("_law_box", none)))
  b_law_box : Binds K fd_law_box ["_law_bag_here", "_law_wide"] []
  fd_law_outlines : FuncData
  F_law_outlines : FunD K "_law_outlines" "_law_outlines" (defArgs s_law_outlines) (defBody s_law_outlines) (defScope s_law_outlines) [] [] (He.fAd K ("_law_outlines", none)) fd_law_outlines
  g_law_outlines : mg "_law_outlines" = some (.ref (He.fAd K ("_law_outlines", none)))
  b_law_outlines : Binds K fd_law_outlines ["_law_bag_here", "_law_many", "_law_wide"] []
  fd_law_ink : FuncData
  F_law_ink : FunD K "_law_ink" "_law_ink" (defArgs s_law_ink) (defBody s_law_ink) (defScope s_law_ink) [] [] (He.fAd K ("_law_ink", none)) fd_law_ink
  g_law_ink : mg "_law_ink" = some (.ref (He.fAd K ("_law_ink", none)))
  b_law_ink : Binds K fd_law_ink ["_law_rings"] []
  fd_law_step : FuncData
  F_law_step : FunD K "_law_step" "_law_step" (defArgs s_law_step) (defBody s_law_step) (defScope s_law_step) [] [] (He.fAd K ("_law_step", none)) fd_law_step
  g_law_step : mg "_law_step" = some (.ref (He.fAd K ("_law_step", none)))
  b_law_step : Binds K fd_law_step ["_law_ink_here"] []
  fd_law_gap : FuncData
  F_law_gap : FunD K "_law_gap" "_law_gap" (defArgs s_law_gap) (defBody s_law_gap) (defScope s_law_gap) [] [] (He.fAd K ("_law_gap", none)) fd_law_gap
  g_law_gap : mg "_law_gap" = some (.ref (He.fAd K ("_law_gap", none)))
  b_law_gap : Binds K fd_law_gap ["_law_left", "_law_right", "_law_apart"] []
  fd_law_table : FuncData
  F_law_table : FunD K "_law_table" "_law_table" (defArgs s_law_table) (defBody s_law_table) (defScope s_law_table) [] [] (He.fAd K ("_law_table", none)) fd_law_table
  g_law_table : mg "_law_table" = some (.ref (He.fAd K ("_law_table", none)))
  b_law_table : Binds K fd_law_table ["_law_inks", "_law_apart"] []
  fd_law_columns : FuncData
  F_law_columns : FunD K "_law_columns" "_law_columns" (defArgs s_law_columns) (defBody s_law_columns) (defScope s_law_columns) [] [] (He.fAd K ("_law_columns", none)) fd_law_columns
  g_law_columns : mg "_law_columns" = some (.ref (He.fAd K ("_law_columns", none)))
  b_law_columns : Binds K fd_law_columns ["_law_inks", "_law_table_here", "_law_word_here"] []
  fd_law_word : FuncData
  F_law_word : FunD K "_law_word" "_law_word" (defArgs s_law_word) (defBody s_law_word) (defScope s_law_word) [] [] (He.fAd K ("_law_word", none)) fd_law_word
  g_law_word : mg "_law_word" = some (.ref (He.fAd K ("_law_word", none)))
  b_law_word : Binds K fd_law_word ["_law_bag_here", "_law_many", "_law_most"] []
  fd_law_refusals_stand : FuncData
  F_law_refusals_stand : FunD K "_law_refusals_stand" "_law_refusals_stand" (defArgs s_law_refusals_stand) (defBody s_law_refusals_stand) (defScope s_law_refusals_stand) [] [] (He.fAd K ("_law_refusals_stand", none)) fd_law_refusals_stand
  g_law_refusals_stand : mg "_law_refusals_stand" = some (.ref (He.fAd K ("_law_refusals_stand", none)))
  b_law_refusals_stand : Binds K fd_law_refusals_stand ["_law_face", "_law_wrong"] []
  fd_law_wrong_word : FuncData
  F_law_wrong_word : FunD K "_law_wrong_word" "_law_wrong_word" (defArgs s_law_wrong_word) (defBody s_law_wrong_word) (defScope s_law_wrong_word) [] [] (He.fAd K ("_law_wrong_word", none)) fd_law_wrong_word
  g_law_wrong_word : mg "_law_wrong_word" = some (.ref (He.fAd K ("_law_wrong_word", none)))
  b_law_wrong_word : Binds K fd_law_wrong_word ["_law_bag_here", "_law_many"] []
  fd_law_word_stands : FuncData
  F_law_word_stands : FunD K "_law_word_stands" "_law_word_stands" (defArgs s_law_word_stands) (defBody s_law_word_stands) (defScope s_law_word_stands) [] [] (He.fAd K ("_law_word_stands", none)) fd_law_word_stands
  g_law_word_stands : mg "_law_word_stands" = some (.ref (He.fAd K ("_law_word_stands", none)))
  b_law_word_stands : Binds K fd_law_word_stands ["_law_face", "_law_inks", "_law_table_here", "_law_word_here"] []
  fd_law_cut_stands : FuncData
  F_law_cut_stands : FunD K "_law_cut_stands" "_law_cut_stands" (defArgs s_law_cut_stands) (defBody s_law_cut_stands) (defScope s_law_cut_stands) [] [] (He.fAd K ("_law_cut_stands", none)) fd_law_cut_stands
  g_law_cut_stands : mg "_law_cut_stands" = some (.ref (He.fAd K ("_law_cut_stands", none)))
  b_law_cut_stands : Binds K fd_law_cut_stands ["_law_face", "_law_word_here", "_law_place"] []
  fd_law : FuncData
  F_law : FunD K "law" "law" (defArgs s_law) (defBody s_law) (defScope s_law) [] [] (He.fAd K ("law", none)) fd_law
  g_law : mg "law" = some (.ref (He.fAd K ("law", none)))
  b_law : Binds K fd_law ["_law_script"] []
  z_abs : mg "abs" = none
  z_all : mg "all" = none
  z_bool : mg "bool" = none
  z_enumerate : mg "enumerate" = none
  z_int : mg "int" = none
  z_isinstance : mg "isinstance" = none
  z_len : mg "len" = none
  z_list : mg "list" = none
  z_max : mg "max" = none
  z_min : mg "min" = none
  z_range : mg "range" = none
  z_str : mg "str" = none
  z_tuple : mg "tuple" = none
  z_zip : mg "zip" = none
  c_GRID : ∃ t, mg "GRID" = some (.int 4 t)
  c_LEAST_CORNERS : ∃ t, mg "LEAST_CORNERS" = some (.int 3 t)
  c_LETTERS : ∃ t, mg "LETTERS" = some (.str (e_T ([97, 98, 99, 100] : Wrd)) t)
  c_MOST_APART : ∃ t, mg "MOST_APART" = some (.int 2 t)
  c_MOST_CORNERS : ∃ t, mg "MOST_CORNERS" = some (.int 8 t)
  c_MOST_LETTERS : ∃ t, mg "MOST_LETTERS" = some (.int 40 t)
  c_MOST_RINGS : ∃ t, mg "MOST_RINGS" = some (.int 3 t)
  fdx_BadWord : FuncData
  Fx_BadWord : FunD K "__init__" "BadWord.__init__" (defArgs s_x_BadWord) (defBody s_x_BadWord) (defScope s_x_BadWord) [] [] (He.ma K (He.ga K "BadWord") "__init__") fdx_BadWord
  bx_BadWord : Binds K fdx_BadWord ["self", "word"] []
  gx_BadWord : mg "BadWord" = some (.ref (He.ga K "BadWord"))
  x_BadWord : XcT K "BadWord"
  nx_BadWord_word : PySem.W.findIn K (.ref (He.ga K "BadWord")) "word" = some none
  kit_BadWord_PressError : PySem.W.kitOne K (.ref (He.ga K "BadWord")) (.ref (He.ga K "PressError")) = some true
  exm_BadWord : PySem.W.exmOne K (.ref (He.ga K "BadWord")) (.ref (He.ga K "BadWord")) = some true
  cl_Face : Cls K (He.ga K "Face")
  gc_Face : mg "Face" = some (.ref (He.ga K "Face"))
  n_Face_apart : NoAttr K (He.ga K "Face") "apart"
  n_Face_gaps_and_bars : NoAttr K (He.ga K "Face") "gaps_and_bars"
  n_Face_inks : NoAttr K (He.ga K "Face") "inks"
  gx_PressError : mg "PressError" = some (.ref (He.ga K "PressError"))
  ib_PressError : InitC K (He.ga K "PressError")
theorem es_D {K : PySem.W.Frag} {mg : Str → Option Value} (T : Tx K mg) : GFr.EsD K mg (He.fAd K ("each_side", none)) T.fd_each_side (defBody s_each_side) (GFr.forB (defBody s_each_side)) (GFr.forP (defBody s_each_side)) :=
  ⟨⟨_, _, _, _, _, _, rfl⟩, ⟨_, _, _, _, _, _, _, _, _, _, _, _, _, _, _, _, _, rfl⟩, ⟨_, _, T.F_each_side, ⟨rfl, rfl, rfl, by decide +kernel, rfl, by decide +kernel, by decide +kernel⟩, rfl, rfl, rfl, rfl⟩, T.b_each_side, T.g_each_side, T.z_len, T.z_range⟩
abbrev tfs : List He.Defn := [("_law_refusals_stand", none)]
abbrev tbs (K : PySem.W.Frag) : List (Addr × Str) := [((He.cT K ("_law_refusals_stand", none)).2, (("_law_refusals_stand" : Str) ++ ".<locals>.") ++ "<lambda>")]
abbrev Tbs (K : PySem.W.Frag) (mg : Str → Option Value) (base : Heap) : Prop := ∀ p ∈ tfs, LamX.TabB base mg (He.cT K p).1 (He.cT K p).2
def rI_Face (K : PySem.W.Frag) : R Face := ⟨fun G v x => ∃ v0 v1 v2, InsAt (He.ga K "Face") [("apart", v0), ("inks", v1), ("gaps_and_bars", v2)] G v ∧ R.rel rInt G v0 x.apart ∧ R.rel (rT K (rT K (rEn e_Ink))) G v1 x.inks ∧ R.rel (rSD (rP2 K rInt (rO rInt))) G v2 x.gaps_and_bars,
  fun e ⟨v0, v1, v2, h, h0, h1, h2⟩ => ⟨v0, v1, v2, h.up e, R.up e h0, R.up e h1, R.up e h2⟩⟩
def TO_law_refused (K : PySem.W.Frag) : (XK → Hp → VK → Prop) → V → Hp → VK → Prop := fun tl yv H Q => tl (fun cls d H' => ∃ (x : ExM) (G : Hp) (O : Own) (due : PyData) (out : Bool), Sub G O H' ∧ exR K G cls d x ∧ R.rel (rAny K) G yv due ∧ m_law_refused_er x due = some out ∧ ∀ (G2 H2 : Hp), Ext G G2 → Sub G2 O H2 → Q (V.bl out) H2) H (fun _ H1 => Q (V.bl false) H1)
theorem gTO_law_refused {K : PySem.W.Frag} {tl : XK → Hp → VK → Prop} {yv : V} {H : Hp} {Q : VK} (h : tl (fun cls d H' => ∃ (x : ExM) (G : Hp) (O : Own) (due : PyData) (out : Bool), Sub G O H' ∧ exR K G cls d x ∧ R.rel (rAny K) G yv due ∧ m_law_refused_er x due = some out ∧ ∀ (G2 H2 : Hp), Ext G G2 → Sub G2 O H2 → Q (V.bl out) H2) H (fun _ H1 => Q (V.bl false) H1)) : TO_law_refused K tl yv H Q := h
def sp_Face_letters (K : PySem.W.Frag) : Sp := fun vs H Q _ => ∃ (G : Hp) (O : Own) (v1 : V) (self1 : Face), vs = [v1] ∧ Sub G (O) H ∧ R.rel (rI_Face K) G v1 self1 ∧ ∃ res, m_Face_letters self1 = some res ∧
  ∀ (G' H' : Hp), Ext G G' → Sub G' (O) H' → Q (V.str (e_T res)) H'
def sp_is_word (K : PySem.W.Frag) : Sp := fun vs H Q _ => ∃ (G : Hp) (O : Own) (v1 : V) (face1 : Face) (word1 : Wrd), vs = [v1, (V.str (e_T word1))] ∧ Sub G (O) H ∧ R.rel (rI_Face K) G v1 face1 ∧ ∃ res, m_is_word face1 word1 = some res ∧
  ∀ (G' H' : Hp), Ext G G' → Sub G' (O) H' → Q (V.bl res) H'
def sp_is_word__1 (K : PySem.W.Frag) : Sp := fun vs H Q _ => ∃ (G : Hp) (O : Own) (v1 : V) (face1 : Face) (v2 : V) (word1 : TxO), vs = [v1, v2] ∧ Sub G (O) H ∧ R.rel (rI_Face K) G v1 face1 ∧ R.rel (rTO K) G v2 word1 ∧ ∃ res, m_is_word__1 face1 word1 = some res ∧
  ∀ (G' H' : Hp), Ext G G' → Sub G' (O) H' → Q (V.bl res) H'
def sp_Face_place_of (K : PySem.W.Frag) : Sp := fun vs H Q _ => ∃ (G : Hp) (O : Own) (v1 : V) (self1 : Face) (letter1 : Wrd), vs = [v1, (V.str (e_T letter1))] ∧ Sub G (O) H ∧ R.rel (rI_Face K) G v1 self1 ∧ ∃ res, m_Face_place_of self1 letter1 = some res ∧
  ∀ (G' H' : Hp), Ext G G' → Sub G' (O) H' → Q (V.int res) H'
def sp_Face_told_pair (K : PySem.W.Frag) : Sp := fun vs H Q _ => ∃ (G : Hp) (O : Own) (v1 : V) (self1 : Face) (left1 : Wrd) (right1 : Wrd), vs = [v1, (V.str (e_T left1)), (V.str (e_T right1))] ∧ Sub G (O) H ∧ R.rel (rI_Face K) G v1 self1 ∧ ∃ res, m_Face_told_pair self1 left1 right1 = some res ∧
  ∀ (v : V) (G' H' : Hp), Ext G G' → Sub G' (O) H' → R.rel (rP2 K rInt (rO rInt)) G' v res → Q v H'
def sp_Face_gap (K : PySem.W.Frag) : Sp := fun vs H Q _ => ∃ (G : Hp) (O : Own) (v1 : V) (self1 : Face) (left1 : Wrd) (right1 : Wrd), vs = [v1, (V.str (e_T left1)), (V.str (e_T right1))] ∧ Sub G (O) H ∧ R.rel (rI_Face K) G v1 self1 ∧ ∃ res, m_Face_gap self1 left1 right1 = some res ∧
  ∀ (G' H' : Hp), Ext G G' → Sub G' (O) H' → Q (V.int res) H'
def sp_step_of (K : PySem.W.Frag) : Sp := fun vs H Q _ => ∃ (G : Hp) (O : Own) (v1 : V) (ink1 : (List Ink)), vs = [v1] ∧ Sub G (O) H ∧ R.rel (rT K (rEn e_Ink)) G v1 ink1 ∧ ∃ res, m_step_of ink1 = some res ∧
  ∀ (G' H' : Hp), Ext G G' → Sub G' (O) H' → Q (V.int res) H'
def sp_Face_ink (K : PySem.W.Frag) : Sp := fun vs H Q _ => ∃ (G : Hp) (O : Own) (v1 : V) (self1 : Face) (letter1 : Wrd), vs = [v1, (V.str (e_T letter1))] ∧ Sub G (O) H ∧ R.rel (rI_Face K) G v1 self1 ∧ ∃ res, m_Face_ink self1 letter1 = some res ∧
  ∀ (v : V) (G' H' : Hp), Ext G G' → Sub G' (O) H' → R.rel (rT K (rEn e_Ink)) G' v res → Q v H'
def sp_Face_step (K : PySem.W.Frag) : Sp := fun vs H Q _ => ∃ (G : Hp) (O : Own) (v1 : V) (self1 : Face) (letter1 : Wrd), vs = [v1, (V.str (e_T letter1))] ∧ Sub G (O) H ∧ R.rel (rI_Face K) G v1 self1 ∧ ∃ res, m_Face_step self1 letter1 = some res ∧
  ∀ (G' H' : Hp), Ext G G' → Sub G' (O) H' → Q (V.int res) H'
def sp_columns (K : PySem.W.Frag) : Sp := fun vs H Q _ => ∃ (G : Hp) (O : Own) (v1 : V) (face1 : Face) (word1 : Wrd), vs = [v1, (V.str (e_T word1))] ∧ Sub G (O) H ∧ R.rel (rI_Face K) G v1 face1 ∧ ∃ res, m_columns face1 word1 = some res ∧
  ∀ (p : Addr) (w : List V) (G' H' : Hp), Ext G G' → Sub G' ((p, HO.lst w) :: O) H' → Al rInt G' w res → Q (V.ref p) H'
def sp_columns__1 (K : PySem.W.Frag) : Sp := fun vs H Q E => ∃ (G : Hp) (O : Own) (v1 : V) (face1 : Face) (v2 : V) (word1 : TxO), vs = [v1, v2] ∧ Sub G (O) H ∧ R.rel (rI_Face K) G v1 face1 ∧ R.rel (rTO K) G v2 word1 ∧ ∃ res, m_columns__1 face1 word1 = some res ∧
  (∀ r, res = Rs.ok r → ∀ (v : V) (G' H' : Hp), Ext G G' → Sub G' (O) H' → R.rel (rM rInt) G' v r → Q v H') ∧ ∀ x, res = Rs.er x → ∀ (c : Value) (d : Option Addr) (G' H' : Hp), Ext G G' → Sub G' (O) H' → exR K G' c d x → E c d H'
def sp_width (K : PySem.W.Frag) : Sp := fun vs H Q _ => ∃ (G : Hp) (O : Own) (v1 : V) (face1 : Face) (word1 : Wrd), vs = [v1, (V.str (e_T word1))] ∧ Sub G (O) H ∧ R.rel (rI_Face K) G v1 face1 ∧ ∃ res, m_width face1 word1 = some res ∧
  ∀ (G' H' : Hp), Ext G G' → Sub G' (O) H' → Q (V.int res) H'
def sp_width__1 (K : PySem.W.Frag) : Sp := fun vs H Q E => ∃ (G : Hp) (O : Own) (v1 : V) (face1 : Face) (v2 : V) (word1 : TxO), vs = [v1, v2] ∧ Sub G (O) H ∧ R.rel (rI_Face K) G v1 face1 ∧ R.rel (rTO K) G v2 word1 ∧ ∃ res, m_width__1 face1 word1 = some res ∧
  (∀ r, res = Rs.ok r → ∀ (G' H' : Hp), Ext G G' → Sub G' (O) H' → Q (V.int r) H') ∧ ∀ x, res = Rs.er x → ∀ (c : Value) (d : Option Addr) (G' H' : Hp), Ext G G' → Sub G' (O) H' → exR K G' c d x → E c d H'
def sp_stamps (K : PySem.W.Frag) : Sp := fun vs H Q _ => ∃ (G : Hp) (O : Own) (v1 : V) (face1 : Face) (word1 : Wrd), vs = [v1, (V.str (e_T word1))] ∧ Sub G (O) H ∧ R.rel (rI_Face K) G v1 face1 ∧ ∃ res, m_stamps face1 word1 = some res ∧
  ∀ (v : V) (G' H' : Hp), Ext G G' → Sub G' (O) H' → R.rel (rT K (rP2 K (rT K (rEn e_Ink)) rInt)) G' v res → Q v H'
def sp_stamps__1 (K : PySem.W.Frag) : Sp := fun vs H Q E => ∃ (G : Hp) (O : Own) (v1 : V) (face1 : Face) (v2 : V) (word1 : TxO), vs = [v1, v2] ∧ Sub G (O) H ∧ R.rel (rI_Face K) G v1 face1 ∧ R.rel (rTO K) G v2 word1 ∧ ∃ res, m_stamps__1 face1 word1 = some res ∧
  (∀ r, res = Rs.ok r → ∀ (v : V) (G' H' : Hp), Ext G G' → Sub G' (O) H' → R.rel (rT K (rP2 K (rT K (rEn e_Ink)) rInt)) G' v r → Q v H') ∧ ∀ x, res = Rs.er x → ∀ (c : Value) (d : Option Addr) (G' H' : Hp), Ext G G' → Sub G' (O) H' → exR K G' c d x → E c d H'
def sp_is_number (K : PySem.W.Frag) : Sp := fun vs H Q _ => ∃ (G : Hp) (O : Own) (thing1 : Int), vs = [(V.int thing1)] ∧ Sub G (O) H ∧ ∃ res, m_is_number thing1 = some res ∧
  ∀ (G' H' : Hp), Ext G G' → Sub G' (O) H' → Q (V.bl res) H'
def sp_is_corner (K : PySem.W.Frag) : Sp := fun vs H Q _ => ∃ (G : Hp) (O : Own) (v1 : V) (thing1 : (Int × Int)), vs = [v1] ∧ Sub G (O) H ∧ R.rel (rP2 K rInt rInt) G v1 thing1 ∧ ∃ res, m_is_corner thing1 = some res ∧
  ∀ (G' H' : Hp), Ext G G' → Sub G' (O) H' → Q (V.bl res) H'
def sp_is_ring (K : PySem.W.Frag) : Sp := fun vs H Q _ => ∃ (G : Hp) (O : Own) (v1 : V) (thing1 : (List (Int × Int))), vs = [v1] ∧ Sub G (O) H ∧ R.rel (rM (rP2 K rInt rInt)) G v1 thing1 ∧ ∃ res, m_is_ring thing1 = some res ∧
  ∀ (G' H' : Hp), Ext G G' → Sub G' (O) H' → Q (V.bl res) H'
def sp_outline_of (K : PySem.W.Frag) : Sp := fun vs H Q _ => ∃ (G : Hp) (O : Own) (letter1 : Wrd) (v1 : V) (thing1 : (List (List (Int × Int)))), vs = [(V.str (e_T letter1)), v1] ∧ Sub G (O) H ∧ R.rel (rM (rM (rP2 K rInt rInt))) G v1 thing1 ∧ ∃ res, m_outline_of letter1 thing1 = some res ∧
  ∀ (v : V) (G' H' : Hp), Ext G G' → Sub G' (O) H' → R.rel (rT K (rT K (rP2 K rInt rInt))) G' v res → Q v H'
def sp_count_of (K : PySem.W.Frag) : Sp := fun vs H Q _ => ∃ (G : Hp) (O : Own) (v1 : V) (start1 : (Int × Int)) (v2 : V) (stop1 : (Int × Int)) (x1 : Int) (y1 : Int), vs = [v1, v2, (V.int x1), (V.int y1)] ∧ Sub G (O) H ∧ R.rel (rP2 K rInt rInt) G v1 start1 ∧ R.rel (rP2 K rInt rInt) G v2 stop1 ∧ ∃ res, m_count_of start1 stop1 x1 y1 = some res ∧
  ∀ (G' H' : Hp), Ext G G' → Sub G' (O) H' → Q (V.int res) H'
def sp_winding (K : PySem.W.Frag) : Sp := fun vs H Q _ => ∃ (G : Hp) (O : Own) (v1 : V) (rings1 : (List (List (Int × Int)))) (x1 : Int) (y1 : Int), vs = [v1, (V.int x1), (V.int y1)] ∧ Sub G (O) H ∧ R.rel (rQ K (rQ K (rP2 K rInt rInt))) G v1 rings1 ∧ ∃ res, m_winding rings1 x1 y1 = some res ∧
  ∀ (G' H' : Hp), Ext G G' → Sub G' (O) H' → Q (V.int res) H'
def sp_ink_of (K : PySem.W.Frag) : Sp := fun vs H Q _ => ∃ (G : Hp) (O : Own) (v1 : V) (rings1 : (List (List (Int × Int)))), vs = [v1] ∧ Sub G (O) H ∧ R.rel (rQ K (rQ K (rP2 K rInt rInt))) G v1 rings1 ∧ ∃ res, m_ink_of rings1 = some res ∧
  ∀ (v : V) (G' H' : Hp), Ext G G' → Sub G' (O) H' → R.rel (rT K (rEn e_Ink)) G' v res → Q v H'
def sp_leftmost (K : PySem.W.Frag) : Sp := fun vs H Q _ => ∃ (G : Hp) (O : Own) (v1 : V) (ink1 : (List Ink)) (row1 : Int), vs = [v1, (V.int row1)] ∧ Sub G (O) H ∧ R.rel (rT K (rEn e_Ink)) G v1 ink1 ∧ ∃ res, m_leftmost ink1 row1 = some res ∧
  ∀ (v : V) (G' H' : Hp), Ext G G' → Sub G' (O) H' → R.rel (rO rInt) G' v res → Q v H'
def sp_rightmost (K : PySem.W.Frag) : Sp := fun vs H Q _ => ∃ (G : Hp) (O : Own) (v1 : V) (ink1 : (List Ink)) (row1 : Int), vs = [v1, (V.int row1)] ∧ Sub G (O) H ∧ R.rel (rT K (rEn e_Ink)) G v1 ink1 ∧ ∃ res, m_rightmost ink1 row1 = some res ∧
  ∀ (v : V) (G' H' : Hp), Ext G G' → Sub G' (O) H' → R.rel (rO rInt) G' v res → Q v H'
def sp_blanks (K : PySem.W.Frag) : Sp := fun vs H Q _ => ∃ (G : Hp) (O : Own) (v1 : V) (left1 : (List Ink)) (v2 : V) (right1 : (List Ink)) (row1 : Int) (gap1 : Int), vs = [v1, v2, (V.int row1), (V.int gap1)] ∧ Sub G (O) H ∧ R.rel (rT K (rEn e_Ink)) G v1 left1 ∧ R.rel (rT K (rEn e_Ink)) G v2 right1 ∧ ∃ res, m_blanks left1 right1 row1 gap1 = some res ∧
  ∀ (v : V) (G' H' : Hp), Ext G G' → Sub G' (O) H' → R.rel (rO rInt) G' v res → Q v H'
def sp_bad_count (K : PySem.W.Frag) : Sp := fun vs H Q _ => ∃ (G : Hp) (O : Own) (v1 : V) (outlines1 : (List (List (List (Int × Int))))) (apart1 : Int), vs = [v1, (V.int apart1)] ∧ Sub G (O) H ∧ R.rel (rM (rM (rM (rP2 K rInt rInt)))) G v1 outlines1 ∧ ∃ res, m_bad_count outlines1 apart1 = some res ∧
  ∀ (v : V) (G' H' : Hp), Ext G G' → Sub G' (O) H' → R.rel (rO (rT K rInt)) G' v res → Q v H'
def sp_row_that_bars (K : PySem.W.Frag) : Sp := fun vs H Q _ => ∃ (G : Hp) (O : Own) (v1 : V) (left1 : (List Ink)) (v2 : V) (right1 : (List Ink)) (gap1 : Int) (apart1 : Int), vs = [v1, v2, (V.int gap1), (V.int apart1)] ∧ Sub G (O) H ∧ R.rel (rT K (rEn e_Ink)) G v1 left1 ∧ R.rel (rT K (rEn e_Ink)) G v2 right1 ∧ ∃ res, m_row_that_bars left1 right1 gap1 apart1 = some res ∧
  ∀ (v : V) (G' H' : Hp), Ext G G' → Sub G' (O) H' → R.rel (rO rInt) G' v res → Q v H'
def sp_Face_gap_and_bar (K : PySem.W.Frag) : Sp := fun vs H Q _ => ∃ (G : Hp) (O : Own) (v1 : V) (self1 : Int) (v2 : V) (left1 : (List Ink)) (v3 : V) (right1 : (List Ink)), vs = [v1, v2, v3] ∧ Sub G (O) H ∧ R.rel (rIP (He.ga K "Face") "apart" rInt) G v1 self1 ∧ R.rel (rT K (rEn e_Ink)) G v2 left1 ∧ R.rel (rT K (rEn e_Ink)) G v3 right1 ∧ ∃ res, m_Face_gap_and_bar self1 left1 right1 = some res ∧
  ∀ (v : V) (G' H' : Hp), Ext G G' → Sub G' (O) H' → R.rel (rP2 K rInt (rO rInt)) G' v res → Q v H'
def sp_Face___init__ (K : PySem.W.Frag) : Sp := fun vs H Q _ => ∃ (G : Hp) (O : Own) (p1 : Addr) (d1 : Addr) (v1 : V) (outlines1 : (List (List (List (Int × Int))))) (apart1 : Int), vs = [V.ref p1, v1, (V.int apart1)] ∧ Sub G ((p1, HO.ins (He.ga K "Face") d1 []) :: O) H ∧ R.rel (rM (rM (rM (rP2 K rInt rInt)))) G v1 outlines1 ∧ ∃ res, m_Face___init__ outlines1 apart1 = some res ∧
  ∀ (G' H' : Hp), Ext G G' → Sub G' (O) H' → R.rel (rI_Face K) G' (V.ref p1) res → Q V.non H'
def sp_law_bag (K : PySem.W.Frag) : Sp := fun vs H Q _ => ∃ (G : Hp) (O : Own) (v1 : V) (script1 : (List Int)) (at1 : Int), vs = [v1, (V.int at1)] ∧ Sub G (O) H ∧ R.rel (rL K rInt) G v1 script1 ∧ ∃ res, m_law_bag script1 at1 = some res ∧
  ∀ (p : Addr) (w : List V) (G' H' : Hp), Ext G G' → Sub G' ((p, HO.lst w) :: O) H' → Al rInt G' w res → Q (V.ref p) H'
def sp_law_draw (K : PySem.W.Frag) : Sp := fun vs H Q _ => ∃ (G : Hp) (O : Own) (a1 : Addr) (w1 : List V) (bag_here1 : List Int) (many1 : Int), vs = [V.ref a1, (V.int many1)] ∧ Sub G ((a1, HO.lst w1) :: O) H ∧ Al rInt G w1 bag_here1 ∧ ∃ res, m_law_draw bag_here1 many1 = some res ∧
  ∀ (G' H' : Hp) (w'0 : List V), Ext G G' → Sub G' ((a1, HO.lst w'0) :: O) H' → Al rInt G' w'0 res.2 → Q (V.int res.1) H'
def sp_law_one (K : PySem.W.Frag) : Sp := fun vs H Q _ => ∃ (G : Hp) (O : Own) (a1 : Addr) (w1 : List V) (bag_here1 : List Int) (v1 : V) (things1 : (List Wrd)), vs = [V.ref a1, v1] ∧ Sub G ((a1, HO.lst w1) :: O) H ∧ Al rInt G w1 bag_here1 ∧ R.rel (rM rTx) G v1 things1 ∧ ∃ res, m_law_one bag_here1 things1 = some res ∧
  ∀ (G' H' : Hp) (w'0 : List V), Ext G G' → Sub G' ((a1, HO.lst w'0) :: O) H' → Al rInt G' w'0 res.2 → Q (V.str (e_T res.1)) H'
def sp_law_one__1 (K : PySem.W.Frag) : Sp := fun vs H Q _ => ∃ (G : Hp) (O : Own) (a1 : Addr) (w1 : List V) (bag_here1 : List Int) (v1 : V) (things1 : (List TxO)), vs = [V.ref a1, v1] ∧ Sub G ((a1, HO.lst w1) :: O) H ∧ Al rInt G w1 bag_here1 ∧ R.rel (rM (rTO K)) G v1 things1 ∧ ∃ res, m_law_one__1 bag_here1 things1 = some res ∧
  ∀ (v : V) (G' H' : Hp) (w'0 : List V), Ext G G' → Sub G' ((a1, HO.lst w'0) :: O) H' → R.rel (rTO K) G' v res.1 → Al rInt G' w'0 res.2 → Q v H'
def sp_law_number (K : PySem.W.Frag) : Sp := fun vs H Q _ => ∃ (G : Hp) (O : Own) (thing1 : Int), vs = [(V.int thing1)] ∧ Sub G (O) H ∧ ∃ res, m_law_number thing1 = some res ∧
  ∀ (G' H' : Hp), Ext G G' → Sub G' (O) H' → Q (V.bl res) H'
def sp_law_box (K : PySem.W.Frag) : Sp := fun vs H Q _ => ∃ (G : Hp) (O : Own) (a1 : Addr) (w1 : List V) (bag_here1 : List Int) (wide1 : Int), vs = [V.ref a1, (V.int wide1)] ∧ Sub G ((a1, HO.lst w1) :: O) H ∧ Al rInt G w1 bag_here1 ∧ ∃ res, m_law_box bag_here1 wide1 = some res ∧
  ∀ (v : V) (G' H' : Hp) (w'0 : List V), Ext G G' → Sub G' ((a1, HO.lst w'0) :: O) H' → R.rel (rM (rP2 K rInt rInt)) G' v res.1 → Al rInt G' w'0 res.2 → Q v H'
def sp_law_outlines (K : PySem.W.Frag) : Sp := fun vs H Q _ => ∃ (G : Hp) (O : Own) (a1 : Addr) (w1 : List V) (bag_here1 : List Int) (many1 : Int) (wide1 : Int), vs = [V.ref a1, (V.int many1), (V.int wide1)] ∧ Sub G ((a1, HO.lst w1) :: O) H ∧ Al rInt G w1 bag_here1 ∧ ∃ res, m_law_outlines bag_here1 many1 wide1 = some res ∧
  ∀ (v : V) (G' H' : Hp) (w'0 : List V), Ext G G' → Sub G' ((a1, HO.lst w'0) :: O) H' → R.rel (rM (rM (rM (rP2 K rInt rInt)))) G' v res.1 → Al rInt G' w'0 res.2 → Q v H'
def sp_law_ink (K : PySem.W.Frag) : Sp := fun vs H Q _ => ∃ (G : Hp) (O : Own) (v1 : V) (rings1 : (List (List (Int × Int)))), vs = [v1] ∧ Sub G (O) H ∧ R.rel (rM (rM (rP2 K rInt rInt))) G v1 rings1 ∧ ∃ res, m_law_ink rings1 = some res ∧
  ∀ (v : V) (G' H' : Hp), Ext G G' → Sub G' (O) H' → R.rel (rT K (rEn e_Ink)) G' v res → Q v H'
def sp_law_step (K : PySem.W.Frag) : Sp := fun vs H Q _ => ∃ (G : Hp) (O : Own) (v1 : V) (ink_here1 : (List Ink)), vs = [v1] ∧ Sub G (O) H ∧ R.rel (rT K (rEn e_Ink)) G v1 ink_here1 ∧ ∃ res, m_law_step ink_here1 = some res ∧
  ∀ (G' H' : Hp), Ext G G' → Sub G' (O) H' → Q (V.int res) H'
def sp_law_gap (K : PySem.W.Frag) : Sp := fun vs H Q _ => ∃ (G : Hp) (O : Own) (v1 : V) (left1 : (List Ink)) (v2 : V) (right1 : (List Ink)) (apart1 : Int), vs = [v1, v2, (V.int apart1)] ∧ Sub G (O) H ∧ R.rel (rT K (rEn e_Ink)) G v1 left1 ∧ R.rel (rT K (rEn e_Ink)) G v2 right1 ∧ ∃ res, m_law_gap left1 right1 apart1 = some res ∧
  ∀ (G' H' : Hp), Ext G G' → Sub G' (O) H' → Q (V.int res) H'
def sp_law_table (K : PySem.W.Frag) : Sp := fun vs H Q _ => ∃ (G : Hp) (O : Own) (v1 : V) (inks1 : (List (List Ink))) (apart1 : Int), vs = [v1, (V.int apart1)] ∧ Sub G (O) H ∧ R.rel (rM (rT K (rEn e_Ink))) G v1 inks1 ∧ ∃ res, m_law_table inks1 apart1 = some res ∧
  ∀ (v : V) (G' H' : Hp), Ext G G' → Sub G' (O) H' → R.rel (rM (rM rInt)) G' v res → Q v H'
def sp_law_columns (K : PySem.W.Frag) : Sp := fun vs H Q _ => ∃ (G : Hp) (O : Own) (v1 : V) (inks1 : (List (List Ink))) (v2 : V) (table_here1 : (List (List Int))) (word_here1 : Wrd), vs = [v1, v2, (V.str (e_T word_here1))] ∧ Sub G (O) H ∧ R.rel (rM (rT K (rEn e_Ink))) G v1 inks1 ∧ R.rel (rM (rM rInt)) G v2 table_here1 ∧ ∃ res, m_law_columns inks1 table_here1 word_here1 = some res ∧
  ∀ (v : V) (G' H' : Hp), Ext G G' → Sub G' (O) H' → R.rel (rM rInt) G' v res → Q v H'
def sp_law_word (K : PySem.W.Frag) : Sp := fun vs H Q _ => ∃ (G : Hp) (O : Own) (a1 : Addr) (w1 : List V) (bag_here1 : List Int) (many1 : Int) (most1 : Int), vs = [V.ref a1, (V.int many1), (V.int most1)] ∧ Sub G ((a1, HO.lst w1) :: O) H ∧ Al rInt G w1 bag_here1 ∧ ∃ res, m_law_word bag_here1 many1 most1 = some res ∧
  ∀ (G' H' : Hp) (w'0 : List V), Ext G G' → Sub G' ((a1, HO.lst w'0) :: O) H' → Al rInt G' w'0 res.2 → Q (V.str (e_T res.1)) H'
def sp_law_refusals_stand (K : PySem.W.Frag) : Sp := fun vs H Q _ => ∃ (G : Hp) (O : Own) (v1 : V) (face1 : Face) (v2 : V) (wrong1 : TxO) (B1 : Own), vs = [v1, v2] ∧ Sub G ((B1 ++ O)) H ∧ R.rel (rI_Face K) G v1 face1 ∧ R.rel (rTO K) G v2 wrong1 ∧ TbR (tbs K) B1 G ∧ NoC O ∧ ∃ res, m_law_refusals_stand face1 wrong1 = some res ∧
  ∀ (G' H' : Hp) (w'0 : Own), Ext G G' → Sub G' ((w'0 ++ O)) H' → TbR (tbs K) w'0 G' → Q (V.bl res) H'
def sp_law_wrong_word (K : PySem.W.Frag) : Sp := fun vs H Q _ => ∃ (G : Hp) (O : Own) (a1 : Addr) (w1 : List V) (bag_here1 : List Int) (many1 : Int), vs = [V.ref a1, (V.int many1)] ∧ Sub G ((a1, HO.lst w1) :: O) H ∧ Al rInt G w1 bag_here1 ∧ ∃ res, m_law_wrong_word bag_here1 many1 = some res ∧
  ∀ (v : V) (G' H' : Hp) (w'0 : List V), Ext G G' → Sub G' ((a1, HO.lst w'0) :: O) H' → R.rel (rTO K) G' v res.1 → Al rInt G' w'0 res.2 → Q v H'
def sp_law_word_stands (K : PySem.W.Frag) : Sp := fun vs H Q _ => ∃ (G : Hp) (O : Own) (v1 : V) (face1 : Face) (v2 : V) (inks1 : (List (List Ink))) (v3 : V) (table_here1 : (List (List Int))) (word_here1 : Wrd), vs = [v1, v2, v3, (V.str (e_T word_here1))] ∧ Sub G (O) H ∧ R.rel (rI_Face K) G v1 face1 ∧ R.rel (rM (rT K (rEn e_Ink))) G v2 inks1 ∧ R.rel (rM (rM rInt)) G v3 table_here1 ∧ ∃ res, m_law_word_stands face1 inks1 table_here1 word_here1 = some res ∧
  ∀ (G' H' : Hp), Ext G G' → Sub G' (O) H' → Q (V.bl res) H'
def sp_law_cut_stands (K : PySem.W.Frag) : Sp := fun vs H Q _ => ∃ (G : Hp) (O : Own) (v1 : V) (face1 : Face) (word_here1 : Wrd) (place1 : Int), vs = [v1, (V.str (e_T word_here1)), (V.int place1)] ∧ Sub G (O) H ∧ R.rel (rI_Face K) G v1 face1 ∧ ∃ res, m_law_cut_stands face1 word_here1 place1 = some res ∧
  ∀ (G' H' : Hp), Ext G G' → Sub G' (O) H' → Q (V.bl res) H'
def sp_law (K : PySem.W.Frag) : Sp := fun vs H Q _ => ∃ (G : Hp) (O : Own) (v1 : V) (script1 : (List Int)) (B1 : Own), vs = [v1] ∧ Sub G ((B1 ++ O)) H ∧ R.rel (rL K rInt) G v1 script1 ∧ TbR (tbs K) B1 G ∧ NoC O ∧ ∃ res, m_law script1 = some res ∧
  ∀ (G' H' : Hp) (w'0 : Own), Ext G G' → Sub G' ((w'0 ++ O)) H' → TbR (tbs K) w'0 G' → Q (V.bl res) H'
end Mr

set_option Elab.async false
set_option linter.all false
set_option maxRecDepth 100000
set_option maxHeartbeats 4000000
set_option synthInstance.maxSize 4000
set_option synthInstance.maxHeartbeats 400000
namespace Mr
open PySem PySem.Spec PyProof.Rows L2
theorem bdf_Face___init___0 {K : PySem.W.Frag} {mg : Str → Option Value} (T : Tx K mg) : ∃ ds, Vals (([.int 1] : List V).drop 1) ds ∧ Binds K T.fd_Face___init__ ["self", "outlines", "apart"] ds :=
  T.F_Face___init__.binds1 3 1 (by simp) rfl fun D kV doc pm an cdv ct us its h1 h2 => match us, its, h1, h2 with
    | [_, _, _], [_], _, _ => ⟨_, rfl, rfl⟩
end Mr

set_option Elab.async false
set_option linter.all false
set_option maxRecDepth 100000
set_option maxHeartbeats 4000000
set_option synthInstance.maxSize 4000
set_option synthInstance.maxHeartbeats 400000
namespace Mr
open PySem PySem.Spec PyProof.Rows L2 GFr
section
variable {P : Program} {w : World} {K : PySem.W.Frag} {mg : Str → Option Value} {base : Heap}
theorem sc_x_BadWord : FnScope ["self", "word"] ["self", "word"] (defScope s_x_BadWord) := ⟨rfl, rfl, rfl, by decide +kernel, rfl, by decide +kernel, by decide +kernel⟩
theorem ok_x_BadWord (T : Tx K mg) : FnOk P w K mg base CX0 1 (He.ma K (He.ga K "BadWord") "__init__") T.fdx_BadWord ["self", "word"] (spX1 K (He.ga K "BadWord") "word") := by
  refine T.Fx_BadWord.ok sc_x_BadWord (fun vs H Q E h => ?_) (fun cdv A outer s H0 vs Q E hr h => ?_)
  · obtain ⟨a, v, d, rfl, _⟩ := h
    rfl
  · obtain ⟨a, v, d, rfl, ha, hd, hf, q⟩ := h
    refine ⟨_, PSs.nox (pss_cons (ps_expr (pe_oinit (by rfl) T.gx_PressError T.ib_PressError (pa_cons (pv 0) (pa_cons (pe_joined (.cons (pe_fmtRD hr (pv 1)) (.cons pe_str .nil))) pa_nil)))) (pss_one (ps_ost (pv 0) (pv 1)))), ?_⟩
    refine gS_Drop ?_
    refine gVeI ?_
    refine gCons' ?_
    refine gV rfl ?_
    refine gCons' ?_
    have l0 : (Str.empty : Str).length ≤ 0 := by decide +kernel
    refine gJsC ?_
    refine gFmtD ?_
    refine gV rfl ?_
    refine ⟨d, hd, hf, fun m0 hm0 => ?_⟩
    have j0 := js_len l0 hm0 (show 0 + 1000000 ≤ 1000000 by decide) (by decide)
    refine ⟨m0, rfl, j0.2, ?_⟩
    have l1 := j0.1
    refine gJsC ?_
    refine gC ?_
    have j1 := js_len (b := Str.ofString " is not a word of the face") l1 (by decide +kernel : _ ≤ 100) (show 1000000 + 100 ≤ 1000100 by decide) (by decide)
    refine ⟨_, rfl, j1.2, ?_⟩
    have l2 := j1.1
    refine gJsN ?_
    refine gNil' ?_
    refine ⟨a, He.ga K "BadWord", _, rfl, by simp, T.x_BadWord.oex, ha, ?_⟩
    refine gOst ?_
    refine gV rfl ?_
    refine gV rfl ?_
    exact ⟨a, He.ga K "BadWord", rfl, T.x_BadWord.oex, T.nx_BadWord_word, .inl ⟨ha, fun dx n ne => q dx n ne⟩⟩
end
end Mr

set_option Elab.async false
set_option linter.all false
set_option maxRecDepth 100000
set_option maxHeartbeats 4000000
set_option synthInstance.maxSize 4000
set_option synthInstance.maxHeartbeats 400000
namespace Mr
open PySem PySem.Spec PyProof.Rows L2 GFr
section
variable {P : Program} {w : World} {K : PySem.W.Frag} {mg : Str → Option Value} {base : Heap}
theorem sc_law_refused : FnScope ["_law_ask", "_law_due", "e"] ["_law_ask", "_law_due"] (defScope s_law_refused) := ⟨rfl, rfl, rfl, by decide +kernel, rfl, by decide +kernel, by decide +kernel⟩
theorem gives_law_refused {X : Cx} (T : Tx X.K X.mg) (q : Str) (g : Addr) (cdg : Value) : GivesTo2 X ["_law_ask", "_law_due", "e"] "_law_refused" (defScope s_law_refused) g cdg (defBody s_law_refused) "_law_ask" q (TO_law_refused X.K) := by
  intro f c' s H Q tl yv hr act hc h
  refine ⟨_, pss_cons (ps_try_as (X := (cxOf C8.CX0 X.prog X.w X.K X.mg X.base ["_law_ask", "_law_due", "e"] "_law_refused" (defScope s_law_refused) g cdg X.A X.stack s H C8.E0).nox) (i := 2) (c := .ref (He.ga X.K "BadWord")) (tb := fun W D σ H => ∃ Ech : XK, (∀ σ' : L2.St, σ'[1]? = some (some yv) ∧ σ'.length = (["_law_ask", "_law_due", "e"] : List Str).length → ∀ cls d H', Ech cls d H' → W cls d σ' H') ∧ σ[0]? = some (some (.ref f)) ∧ (σ[1]? = some (some yv) ∧ σ.length = (["_law_ask", "_law_due", "e"] : List Str).length) ∧ H c' = some (LamX.CodeO c' q) ∧ tl Ech H (fun _ H1 => D.nx σ H1)) rfl rfl sc_law_refused.nd rfl rfl ⟨(by rfl), by decide, .inl T.gx_BadWord⟩ takes0
    (fun W pn xe tk _ => ⟨fun pins s' σ H' D I h' => ?_⟩) (fun a oe cls d pn hz hf => (pss_one (ps_ret (pe_cut (pe_and (pe_cmpR (show OpR _ _ (rEqD X.K) from op_eqD hr.units) (pe_xf T.x_BadWord.xf T.nx_BadWord_word hz hf (pv 2)) (pv 1) (nomark _)) (pe_one (pe_callB (call_isG T.x_BadWord.ex hz hf) (by rfl) T.z_isinstance boot_isinstance (pa_cons (pv 2) (pa_cons (pe_glob (v := V.ref (He.ga _ "PressError")) (by rfl) T.gx_PressError rfl) pa_nil)))))))))) (pss_one (ps_ret pe_bl)), ?_⟩
  · obtain ⟨Ech, hW, h1, h1b, h2, h3⟩ := h'
    exact (pss_one (ps_expr (act W pn xe Ech _ _ tk hW))).run pins s' σ H' D I ⟨h1, h1b, h2, h3⟩
  · refine gSeqTB ?_
    refine ⟨_, ?_, rfl, ⟨rfl, rfl⟩, hc, h⟩
    rintro σ' ⟨hs1, hlen⟩ cls d H' ⟨x, G0, O, due, out, S0, hx, hdue, hm0, q⟩
    cases x with
    | BadWord x0 =>
    obtain ⟨rfl, dd, v0, rfl, hdd, h0_⟩ := hx
    obtain ⟨y0, y1, y2, rfl⟩ := len3 hlen
    obtain rfl : y1 = some yv := Option.some.inj hs1
    refine ⟨true, T.exm_BadWord, fun _ a ha => ?_, fun z => by cases z⟩
    have E0 := Ext.refl G0
    have hm0 : (Option.bind (Option.bind (eqA x0 due) fun b1 =>   if b1 then (some true) else some false) fun x1 =>   some x1) = some out := hm0
    refine gRet ?_
    obtain ⟨x1, hq2, hm2⟩ := bindS hm0
    refine gCE (fun (b : V) (H : Hp) => ∃ (G : Hp), Ext G0 G ∧ Sub G (O) H ∧ b = V.bl x1) ?_ ?_
    · skip
      refine gAndV ?_
      refine gOp ?_
      refine gXf ?_
      refine gV rfl ?_
      refine ⟨rfl, rfl, dd, _, v0, rfl, S0.ext _ _ ((Ext.refl _) _ _ hdd), rfl, ?_⟩
      have h2 := R.up (Ext.refl _) h0_
      refine gV rfl ?_
      obtain ⟨b2, hq3, hm3⟩ := bindS hq2
      refine q_eqA S0 (R.up S0.ext h2) (R.up S0.ext hdue) hq3 ?_
      refine ⟨b2, rfl, ?_⟩
      refine ite2 (fun c1 => ?_) (fun c1 => ?_)
      · skip
        have hm4 := (if_pos c1).symm.trans hm3
        refine gCB ?_
        refine gCons' ?_
        refine gV rfl ?_
        refine gCons' ?_
        refine gC ?_
        refine gNil' ?_
        refine ⟨rfl, _, _, true, dd, _, rfl, S0.ext _ _ ((Ext.refl _) _ _ hdd), rfl, (fun _ z => z), T.kit_BadWord_PressError, ?_⟩
        cases hm4
        exact ⟨G0, (Ext.refl _), S0, rfl⟩
      · skip
        have hm5 := (if_neg c1).symm.trans hm3
        cases hm5
        exact ⟨G0, (Ext.refl _), S0, rfl⟩
    · intro b3 H1 hJ
      obtain ⟨G1, e1, S1, rfl⟩ := hJ
      have h3 := R.up e1 hdue
      have E1 := E0.trans e1
      cases hm2
      exact q G1 H1 E1 S1
end
end Mr

set_option Elab.async false
set_option linter.all false
set_option maxRecDepth 100000
set_option maxHeartbeats 4000000
set_option synthInstance.maxSize 4000
set_option synthInstance.maxHeartbeats 400000
namespace Mr
open PySem PySem.Spec PyProof.Rows L2 GFr
section
variable {P : Program} {w : World} {K : PySem.W.Frag} {mg : Str → Option Value} {base : Heap}
theorem sc_Face_letters : FnScope ["self"] ["self"] (defScope s_Face_letters) := ⟨rfl, rfl, rfl, by decide +kernel, rfl, by decide +kernel, by decide +kernel⟩
theorem ok_Face_letters (T : Tx K mg) : FnOk P w K mg base CX0 1 (gAd K "Face" "letters") T.fd_Face_letters ["self"] (sp_Face_letters K) := by
  obtain ⟨tk_LETTERS, c_LETTERS⟩ := T.c_LETTERS
  refine T.F_Face_letters.ok sc_Face_letters (fun vs H Q E h => ?_) (fun cdv A outer s H0 vs Q E hr h => ?_)
  · obtain ⟨G, O, v1, self1, rfl, _⟩ := h
    rfl
  · obtain ⟨G0, O, v1, self1, rfl, S0, h1, res, hm, q⟩ := h
    refine ⟨_, PSs.nox (pss_one (ps_ret (pe_slice sl_str (pe_glob (v := (V.str (e_T ([97, 98, 99, 100] : Wrd)))) (by rfl) c_LETTERS ⟨_, rfl⟩) po_none (po_some (pe_callB (r := rLenM K) call_lenM (by rfl) T.z_len boot_len (pa_cons (pe_fld (pv 0) rfl) pa_nil)))))), ?_⟩
    have E0 := Ext.refl G0
    have hm0 : (Option.bind (cutT ([97, 98, 99, 100] : Wrd) none (some (self1.inks.length : Int))) fun t1 =>
  some t1) = some res := hm
    refine gRet ?_
    refine gSl ?_
    refine gC ?_
    refine gNoPart ?_
    refine gPart ?_
    refine gCB ?_
    refine gCons' ?_
    refine gFld ?_
    refine gV rfl ?_
    obtain ⟨v2, v3, v4, hI1, h2, h3, h4⟩ := (id h1)
    obtain rfl := (show v2 = (V.int self1.apart) from h2)
    obtain ⟨a1, d1, ev1, ha1⟩ := ins_prop S0 hI1
    refine ⟨a1, _, d1, _, _, ev1, ha1, T.cl_Face, T.n_Face_inks, rfl, ?_⟩
    refine gNil' ?_
    refine q_lenT S0 h3 ?_
    refine ⟨_, rfl, ?_⟩
    obtain ⟨t1, hq1, hm1⟩ := bindS hm0
    refine q_slT hq1 ?_
    cases hm1
    exact q G0 H0 E0 S0
end
end Mr

set_option Elab.async false
set_option linter.all false
set_option maxRecDepth 100000
set_option maxHeartbeats 4000000
set_option synthInstance.maxSize 4000
set_option synthInstance.maxHeartbeats 400000
namespace Mr
open PySem PySem.Spec PyProof.Rows L2 GFr
section
variable {P : Program} {w : World} {K : PySem.W.Frag} {mg : Str → Option Value} {base : Heap}
theorem sc_is_word : FnScope ["face", "word", "letter"] ["face", "word"] (defScope s_is_word) := ⟨rfl, rfl, rfl, by decide +kernel, rfl, by decide +kernel, by decide +kernel⟩
theorem ok_is_word (T : Tx K mg) : FnOk P w K mg base CX0 4 (He.fAd K ("is_word", none)) T.fd_is_word ["face", "word"] (sp_is_word K) := by
  have G_Face_letters := ok_Face_letters (P := P) (w := w) (base := base) T
  obtain ⟨tk_MOST_LETTERS, c_MOST_LETTERS⟩ := T.c_MOST_LETTERS
  refine T.F_is_word.ok sc_is_word (fun vs H Q E h => ?_) (fun cdv A outer s H0 vs Q E hr h => ?_)
  · obtain ⟨G, O, v1, face1, word1, rfl, _⟩ := h
    rfl
  · obtain ⟨G0, O, v1, face1, word1, rfl, S0, h1, res, hm, q⟩ := h
    refine ⟨_, PSs.nox (pss_cons (ps_if (pt_cut (PW.pt (pw_or (pt_not (pt_val (pe_callB (r := rIsi K) call_isi (by rfl) T.z_isinstance boot_isinstance (pa_cons (pv 1) (pa_cons (pe_bltn (v := .ty "str") (by rfl) T.z_str boot_str rfl) pa_nil))))) (pw_or1 (pt_not (pt_cut (pt_chain op_le op_le pe_int (pe_callB (r := rLenS) call_lenS (by rfl) T.z_len boot_len (pa_cons (pv 1) pa_nil)) (pe_glob (v := (V.int (40 : Int))) (by rfl) c_MOST_LETTERS ⟨_, rfl⟩)))))))) (pss_one (ps_ret pe_bl)) pss_nil)
      (pss_one (ps_ret (pe_callB (cr_all rfl) (by rfl) T.z_all boot_all (pa_cons (pe_lc (own := [("letter", 2)]) (g := gName 2) (by rfl) sc_is_word.nd (pi_str (pv 1)) (blkOk_by (own := [("letter", 2)]) (N := ["face", "word", "letter"]) (sc := defScope s_is_word) (by decide +kernel)) (fun _ _ _ _ _ => (pg_name (i := 2) sc_is_word.nd rfl (.inl rfl))) (fun _ _ _ _ _ => pts_nil) (fun _ _ _ _ _ => (pe_cmpR op_inS (pv 2) (pe_prop (pv 0) T.cl_Face T.p_Face_letters G_Face_letters (hr.mono (by decide)) T.b_Face_letters .nil pass0 rfl) (by with_unfolding_all rfl)))) pa_nil))))), ?_⟩
    have E0 := Ext.refl G0
    have hm0 : (Option.bind (if (!true) then some true else (Option.bind (lenT word1) fun k1 =>
  some (!((decide ((1 : Int) ≤ k1)) && (decide (k1 ≤ (40 : Int))))))) fun x1 =>
  if x1 then (some false)
  else (Option.bind (folM (m_is_word_c1 face1) (sgT word1) ([] : (List Bool))) fun acc1 =>
  some (acc1.all id))) = some res := hm
    refine gS_IfS ?_
    obtain ⟨x1, hq2, hm2⟩ := bindS hm0
    refine gCT (fun (b : Bool) (H : Hp) => ∃ (G : Hp), Ext G0 G ∧ Sub G (O) H ∧ b = x1) ?_ ?_
    · skip
      refine gOr ?_
      refine gNot ?_
      refine gB ?_
      refine gCB ?_
      refine gCons' ?_
      refine gV rfl ?_
      refine gCons' ?_
      refine gC ?_
      refine gNil' ?_
      refine q_isi (ty_S _) (by decide +kernel : kitB "str" "str" = some true) ?_
      refine ⟨true, rfl, ?_⟩
      refine ite2 (fun c2 => ?_) (fun c2 => ?_)
      · skip
        have hm3 := (if_pos c2).symm.trans hq2
        cases hm3
        exact ⟨G0, (Ext.refl _), S0, rfl⟩
      · skip
        have hm4 := (if_neg c2).symm.trans hq2
        refine gNot ?_
        obtain ⟨k2, hq3, hm5⟩ := bindS hm4
        refine gCT (fun (b : Bool) (H : Hp) => H = H0 ∧ b = ((decide ((1 : Int) ≤ k2)) && (decide (k2 ≤ (40 : Int))))) ?_ ?_
        · skip
          refine gTest ?_
          refine gChain ?_
          refine gC ?_
          refine gCB ?_
          refine gCons' ?_
          refine gV rfl ?_
          refine gNil' ?_
          refine q_lenT' hq3 ?_
          refine ⟨_, _, rfl, rfl, ⟨(decide ((1 : Int) ≤ k2)), rfl, ?_⟩⟩
          refine ite2 (fun c3 => ?_) (fun c3 => ?_)
          · skip
            refine gC ?_
            exact ⟨_, _, rfl, rfl, (decide (k2 ≤ (40 : Int))), rfl, rfl, by rw [c3, Bool.true_and]⟩
          · exact ⟨false, rfl, ⟨rfl, by rw [ne_false c3, Bool.false_and]⟩⟩
        · rintro b2 H2 ⟨e2, rfl⟩
          rw [e2]
          cases hm5
          exact ⟨G0, (Ext.refl _), S0, rfl⟩
    · intro b3 H3 hJ
      obtain ⟨G1, e3, S1, rfl⟩ := hJ
      have h2 := R.up e3 h1
      have E1 := E0.trans e3
      refine ite2 (fun c4 => ?_) (fun c4 => ?_)
      · skip
        have hm6 := (if_pos c4).symm.trans hm2
        refine gRet ?_
        refine gC ?_
        cases hm6
        exact q G1 H3 E1 S1
      · skip
        have hm7 := (if_neg c4).symm.trans hm2
        refine gNext ?_
        refine gE ?_
        refine gRet ?_
        refine gCB ?_
        refine gCons' ?_
        refine gLc ?_
        refine gIS ?_
        refine gV rfl ?_
        obtain ⟨acc1, hq6, hm10⟩ := bindS hm7
        refine lc_S hq6 (fun (D : Addr) (s : (List Bool)) (H : Hp) => ∃ (G : Hp) (w1 : List V), Ext G1 G ∧ Sub G ((D, HO.lst w1) :: O) H ∧ Al rBool G w1 s) ?_ ?_ ?_
        · intro D1 nD1
          exact ⟨G1, [], Ext.refl _, S1.newOwn nD1, True.intro⟩
        · intro D2 i1 x2 acc2 s2 hb1 hr1 H5 hI2
          obtain ⟨G3, w2, e5, S3, h8⟩ := hI2
          have h9 := R.up e5 h2
          have E3 := E1.trans e5
          refine ⟨rfl, ?_⟩
          have hm11 : (Option.bind (m_Face_letters face1) fun r2 =>   Option.bind (inT x2 r2) fun b5 =>   Option.bind (appM acc2 b5) fun acc3 =>   some acc3) = some s2 := hb1
          refine gYes ?_
          refine iteT ?_
          refine gOp ?_
          refine gV rfl ?_
          refine gProp ?_
          refine gV rfl ?_
          obtain ⟨v6, v7, v8, hI3, h10, h11, h12⟩ := (id h9)
          obtain rfl := (show v6 = (V.int face1.apart) from h10)
          obtain ⟨a2, d2, ev2, ha2⟩ := ins_prop S3 hI3
          refine ⟨a2, d2, _, ev2, ha2, ?_⟩
          rw [← ev2]
          obtain ⟨r2, hq7, hm12⟩ := bindS hm11
          refine ⟨G3, ((D2, HO.lst w2) :: O), v1, face1, rfl, S3, h9, r2, hq7, fun G4 H6 e6 S4 => ?_⟩
          have h13 := R.up e6 h9
          have h14 := Al.up e6 h8
          have E4 := E3.trans e6
          obtain ⟨b5, hq8, hm13⟩ := bindS hm12
          refine q_inTx hq8 ?_
          obtain ⟨acc3, hq9, hm14⟩ := bindS hm13
          refine q_lcEl S4 h14 (show R.rel rBool G4 (V.bl b5) b5 from rfl) hq9 (fun H7 w3 S5 h15 => ?_)
          cases hm14
          exact ⟨_, ⟨G4, w3, (e5.trans e6), S5, h15⟩, hr1⟩
        · intro D3 H8 hI4
          obtain ⟨G5, w4, e7, S6, h16⟩ := hI4
          have h17 := R.up e7 h2
          have E5 := E1.trans e7
          refine gNil' ?_
          obtain ⟨G6, e8, S7, h18⟩ := frz_M S6 h16
          have h19 := R.up e8 h17
          have E6 := E5.trans e8
          refine q_all S7 h18 ?_
          cases hm10
          exact q G6 H8 E6 S7
end
end Mr

set_option Elab.async false
set_option linter.all false
set_option maxRecDepth 100000
set_option maxHeartbeats 4000000
set_option synthInstance.maxSize 4000
set_option synthInstance.maxHeartbeats 400000
namespace Mr
open PySem PySem.Spec PyProof.Rows L2 GFr
section
variable {P : Program} {w : World} {K : PySem.W.Frag} {mg : Str → Option Value} {base : Heap}
theorem ok_is_word__1 (T : Tx K mg) : FnOk P w K mg base CX0 4 (He.fAd K ("is_word", none)) T.fd_is_word ["face", "word"] (sp_is_word__1 K) := by
  have G_Face_letters := ok_Face_letters (P := P) (w := w) (base := base) T
  obtain ⟨tk_MOST_LETTERS, c_MOST_LETTERS⟩ := T.c_MOST_LETTERS
  refine T.F_is_word.ok sc_is_word (fun vs H Q E h => ?_) (fun cdv A outer s H0 vs Q E hr h => ?_)
  · obtain ⟨G, O, v1, face1, v2, word1, rfl, _⟩ := h
    rfl
  · obtain ⟨G0, O, v1, face1, v2, word1, rfl, S0, h1, h2, res, hm, q⟩ := h
    refine ⟨_, PSs.nox (pss_cons (ps_if (pt_cut (PW.pt (pw_or (pt_not (pt_val (pe_callB (r := rIsi K) call_isi (by rfl) T.z_isinstance boot_isinstance (pa_cons (pv 1) (pa_cons (pe_bltn (v := .ty "str") (by rfl) T.z_str boot_str rfl) pa_nil))))) (pw_or1 (pt_not (pt_cut (pt_chain op_le op_le pe_int (pe_callB (r := rLenS) call_lenS (by rfl) T.z_len boot_len (pa_cons (pv 1) pa_nil)) (pe_glob (v := (V.int (40 : Int))) (by rfl) c_MOST_LETTERS ⟨_, rfl⟩)))))))) (pss_one (ps_ret pe_bl)) pss_nil)
      (pss_one (ps_ret (pe_callB (cr_all rfl) (by rfl) T.z_all boot_all (pa_cons (pe_lc (own := [("letter", 2)]) (g := gName 2) (by rfl) sc_is_word.nd (pi_str (pv 1)) (blkOk_by (own := [("letter", 2)]) (N := ["face", "word", "letter"]) (sc := defScope s_is_word) (by decide +kernel)) (fun _ _ _ _ _ => (pg_name (i := 2) sc_is_word.nd rfl (.inl rfl))) (fun _ _ _ _ _ => pts_nil) (fun _ _ _ _ _ => (pe_cmpR op_inS (pv 2) (pe_prop (pv 0) T.cl_Face T.p_Face_letters G_Face_letters (hr.mono (by decide)) T.b_Face_letters .nil pass0 rfl) (by with_unfolding_all rfl)))) pa_nil))))), ?_⟩
    have E0 := Ext.refl G0
    have hm0 : (Option.bind (if (!(isTx word1)) then some true else (Option.bind (toW word1) fun w1 =>
  Option.bind (lenT w1) fun k1 =>
  some (!((decide ((1 : Int) ≤ k1)) && (decide (k1 ≤ (40 : Int))))))) fun x1 =>
  if x1 then (some false)
  else (Option.bind (toW word1) fun w3 =>
  Option.bind (folM (m_is_word__1_c1 face1) (sgT w3) ([] : (List Bool))) fun acc1 =>
  some (acc1.all id))) = some res := hm
    refine gS_IfS ?_
    obtain ⟨x1, hq3, hm3⟩ := bindS hm0
    refine gCT (fun (b : Bool) (H : Hp) => ∃ (G : Hp), Ext G0 G ∧ Sub G (O) H ∧ b = x1) ?_ ?_
    · skip
      refine gOr ?_
      refine gNot ?_
      refine gB ?_
      refine gCB ?_
      refine gCons' ?_
      refine gV rfl ?_
      refine gCons' ?_
      refine gC ?_
      refine gNil' ?_
      refine q_isTx S0 h2 ?_
      refine ⟨(isTx word1), rfl, ?_⟩
      refine ite2 (fun c2 => ?_) (fun c2 => ?_)
      · skip
        have hm4 := (if_pos c2).symm.trans hq3
        cases hm4
        exact ⟨G0, (Ext.refl _), S0, rfl⟩
      · skip
        have hm5 := (if_neg c2).symm.trans hq3
        refine gNot ?_
        obtain ⟨w2, hq4, hm6⟩ := bindS hm5
        obtain ⟨k2, hq5, hm7⟩ := bindS hm6
        refine gCT (fun (b : Bool) (H : Hp) => H = H0 ∧ b = ((decide ((1 : Int) ≤ k2)) && (decide (k2 ≤ (40 : Int))))) ?_ ?_
        · skip
          refine gTest ?_
          refine gChain ?_
          refine gC ?_
          refine gCB ?_
          refine gCons' ?_
          refine gV rfl ?_
          refine gNil' ?_
          obtain rfl := rTO_get h2 hq4
          refine q_lenT' hq5 ?_
          refine ⟨_, _, rfl, rfl, ⟨(decide ((1 : Int) ≤ k2)), rfl, ?_⟩⟩
          refine ite2 (fun c3 => ?_) (fun c3 => ?_)
          · skip
            refine gC ?_
            exact ⟨_, _, rfl, rfl, (decide (k2 ≤ (40 : Int))), rfl, rfl, by rw [c3, Bool.true_and]⟩
          · exact ⟨false, rfl, ⟨rfl, by rw [ne_false c3, Bool.false_and]⟩⟩
        · rintro b2 H2 ⟨e2, rfl⟩
          rw [e2]
          cases hm7
          exact ⟨G0, (Ext.refl _), S0, rfl⟩
    · intro b3 H3 hJ
      obtain ⟨G1, e3, S1, rfl⟩ := hJ
      have h3 := R.up e3 h1
      have h4 := R.up e3 h2
      have E1 := E0.trans e3
      refine ite2 (fun c4 => ?_) (fun c4 => ?_)
      · skip
        have hm8 := (if_pos c4).symm.trans hm3
        refine gRet ?_
        refine gC ?_
        cases hm8
        exact q G1 H3 E1 S1
      · skip
        have hm9 := (if_neg c4).symm.trans hm3
        refine gNext ?_
        refine gE ?_
        refine gRet ?_
        refine gCB ?_
        refine gCons' ?_
        refine gLc ?_
        refine gIS ?_
        refine gV rfl ?_
        obtain ⟨w3, hq6, hm10⟩ := bindS hm9
        obtain rfl := rTO_get h4 hq6
        obtain ⟨acc1, hq9, hm13⟩ := bindS hm10
        refine lc_S hq9 (fun (D : Addr) (s : (List Bool)) (H : Hp) => ∃ (G : Hp) (w4 : List V), Ext G1 G ∧ Sub G ((D, HO.lst w4) :: O) H ∧ Al rBool G w4 s) ?_ ?_ ?_
        · intro D1 nD1
          exact ⟨G1, [], Ext.refl _, S1.newOwn nD1, True.intro⟩
        · intro D2 i1 x2 acc2 s2 hb1 hr1 H5 hI2
          obtain ⟨G3, w5, e5, S3, h11⟩ := hI2
          have h12 := R.up e5 h3
          have h13 := R.up e5 h4
          have E3 := E1.trans e5
          refine ⟨rfl, ?_⟩
          have hm14 : (Option.bind (m_Face_letters face1) fun r2 =>   Option.bind (inT x2 r2) fun b5 =>   Option.bind (appM acc2 b5) fun acc3 =>   some acc3) = some s2 := hb1
          refine gYes ?_
          refine iteT ?_
          refine gOp ?_
          refine gV rfl ?_
          refine gProp ?_
          refine gV rfl ?_
          obtain ⟨v7, v8, v9, hI3, h14, h15, h16⟩ := (id h12)
          obtain rfl := (show v7 = (V.int face1.apart) from h14)
          obtain ⟨a2, d2, ev2, ha2⟩ := ins_prop S3 hI3
          refine ⟨a2, d2, _, ev2, ha2, ?_⟩
          rw [← ev2]
          obtain ⟨r2, hq10, hm15⟩ := bindS hm14
          refine ⟨G3, ((D2, HO.lst w5) :: O), v1, face1, rfl, S3, h12, r2, hq10, fun G4 H6 e6 S4 => ?_⟩
          have h17 := R.up e6 h12
          have h18 := R.up e6 h13
          have h19 := Al.up e6 h11
          have E4 := E3.trans e6
          obtain ⟨b5, hq11, hm16⟩ := bindS hm15
          refine q_inTx hq11 ?_
          obtain ⟨acc3, hq12, hm17⟩ := bindS hm16
          refine q_lcEl S4 h19 (show R.rel rBool G4 (V.bl b5) b5 from rfl) hq12 (fun H7 w6 S5 h20 => ?_)
          cases hm17
          exact ⟨_, ⟨G4, w6, (e5.trans e6), S5, h20⟩, hr1⟩
        · intro D3 H8 hI4
          obtain ⟨G5, w7, e7, S6, h21⟩ := hI4
          have h22 := R.up e7 h3
          have h23 := R.up e7 h4
          have E5 := E1.trans e7
          refine gNil' ?_
          obtain ⟨G6, e8, S7, h24⟩ := frz_M S6 h21
          have h25 := R.up e8 h22
          have h26 := R.up e8 h23
          have E6 := E5.trans e8
          refine q_all S7 h24 ?_
          cases hm13
          exact q G6 H8 E6 S7
end
end Mr

set_option Elab.async false
set_option linter.all false
set_option maxRecDepth 100000
set_option maxHeartbeats 4000000
set_option synthInstance.maxSize 4000
set_option synthInstance.maxHeartbeats 400000
namespace Mr
open PySem PySem.Spec PyProof.Rows L2 GFr
section
variable {P : Program} {w : World} {K : PySem.W.Frag} {mg : Str → Option Value} {base : Heap}
theorem sc_Face_place_of : FnScope ["self", "letter"] ["self", "letter"] (defScope s_Face_place_of) := ⟨rfl, rfl, rfl, by decide +kernel, rfl, by decide +kernel, by decide +kernel⟩
theorem ok_Face_place_of (T : Tx K mg) : FnOk P w K mg base CX0 4 (He.fAd K ("Face", some "place_of")) T.fd_Face_place_of ["self", "letter"] (sp_Face_place_of K) := by
  have G_Face_letters := ok_Face_letters (P := P) (w := w) (base := base) T
  obtain ⟨tk_LETTERS, c_LETTERS⟩ := T.c_LETTERS
  refine T.F_Face_place_of.ok sc_Face_place_of (fun vs H Q E h => ?_) (fun cdv A outer s H0 vs Q E hr h => ?_)
  · obtain ⟨G, O, v1, self1, letter1, rfl, _⟩ := h
    rfl
  · obtain ⟨G0, O, v1, self1, letter1, rfl, S0, h1, res, hm, q⟩ := h
    refine ⟨_, PSs.nox (pss_cons (ps_if (pt_cut (PW.pt (pw_or (pt_not (pt_val (pe_callB (r := rIsi K) call_isi (by rfl) T.z_isinstance boot_isinstance (pa_cons (pv 1) (pa_cons (pe_bltn (v := .ty "str") (by rfl) T.z_str boot_str rfl) pa_nil))))) (pw_or (pt_cmpR op_neI (pe_callB (r := rLenS) call_lenS (by rfl) T.z_len boot_len (pa_cons (pv 1) pa_nil)) pe_int (nomark _)) (pw_or1 (pt_cmpR op_niS (pv 1) (pe_prop (pv 0) T.cl_Face T.p_Face_letters G_Face_letters (hr.mono (by decide)) T.b_Face_letters .nil pass0 rfl) (by with_unfolding_all rfl))))))) (pss_one ps_never) pss_nil)
      (pss_one (ps_ret (pe_m1 PySem.F.slot_str_index PySem.F.type_str_index mt_sidx (pe_glob (v := (V.str (e_T ([97, 98, 99, 100] : Wrd)))) (by rfl) c_LETTERS ⟨_, rfl⟩) (pv 1))))), ?_⟩
    have E0 := Ext.refl G0
    have hm0 : (Option.bind (if (!true) then some true else (Option.bind (lenT letter1) fun k1 =>
  if (!decide (k1 = (1 : Int))) then some true else (Option.bind (m_Face_letters self1) fun r1 =>
  Option.bind (inT letter1 r1) fun b1 =>
  some (!b1)))) fun x1 =>
  if x1 then (none)
  else (Option.bind (idxA ([97, 98, 99, 100] : Wrd) letter1) fun k3 =>
  some k3)) = some res := hm
    refine gS_IfS ?_
    obtain ⟨x1, hq4, hm4⟩ := bindS hm0
    refine gCT (fun (b : Bool) (H : Hp) => ∃ (G : Hp), Ext G0 G ∧ Sub G (O) H ∧ b = x1) ?_ ?_
    · skip
      refine gOr ?_
      refine gNot ?_
      refine gB ?_
      refine gCB ?_
      refine gCons' ?_
      refine gV rfl ?_
      refine gCons' ?_
      refine gC ?_
      refine gNil' ?_
      refine q_isi (ty_S _) (by decide +kernel : kitB "str" "str" = some true) ?_
      refine ⟨true, rfl, ?_⟩
      refine ite2 (fun c1 => ?_) (fun c1 => ?_)
      · skip
        have hm5 := (if_pos c1).symm.trans hq4
        cases hm5
        exact ⟨G0, (Ext.refl _), S0, rfl⟩
      · skip
        have hm6 := (if_neg c1).symm.trans hq4
        refine gOr ?_
        refine gTest ?_
        refine gOp ?_
        refine gCB ?_
        refine gCons' ?_
        refine gV rfl ?_
        refine gNil' ?_
        obtain ⟨k2, hq5, hm7⟩ := bindS hm6
        refine q_lenT' hq5 ?_
        refine gC ?_
        refine ⟨_, _, rfl, rfl, ?_⟩
        refine ⟨(!decide (k2 = (1 : Int))), rfl, ?_⟩
        refine ite2 (fun c2 => ?_) (fun c2 => ?_)
        · skip
          have hm8 := (if_pos c2).symm.trans hm7
          cases hm8
          exact ⟨G0, (Ext.refl _), S0, rfl⟩
        · skip
          have hm9 := (if_neg c2).symm.trans hm7
          refine gTest ?_
          refine gOp ?_
          refine gV rfl ?_
          refine gProp ?_
          refine gV rfl ?_
          obtain ⟨v5, v6, v7, hI2, h6, h7, h8⟩ := (id h1)
          obtain rfl := (show v5 = (V.int self1.apart) from h6)
          obtain ⟨a2, d2, ev2, ha2⟩ := ins_prop S0 hI2
          refine ⟨a2, d2, _, ev2, ha2, ?_⟩
          rw [← ev2]
          obtain ⟨r2, hq6, hm10⟩ := bindS hm9
          refine ⟨G0, (O), v1, self1, rfl, S0, h1, r2, hq6, fun G2 H2 e2 S2 => ?_⟩
          have h9 := R.up e2 h1
          have E2 := E0.trans e2
          obtain ⟨b2, hq7, hm11⟩ := bindS hm10
          refine q_niTx hq7 ?_
          refine ⟨(!b2), rfl, ?_⟩
          cases hm11
          exact ⟨G2, e2, S2, rfl⟩
    · intro b3 H3 hJ
      obtain ⟨G3, e3, S3, rfl⟩ := hJ
      have h10 := R.up e3 h1
      have E3 := E0.trans e3
      refine ite2 (fun c3 => ?_) (fun c3 => ?_)
      · skip
        have hm12 := (if_pos c3).symm.trans hm4
        cases hm12
      · skip
        have hm13 := (if_neg c3).symm.trans hm4
        refine gNext ?_
        refine gE ?_
        refine gRet ?_
        refine gM1 ?_
        refine gC ?_
        refine ⟨⟨_, rfl⟩, ?_⟩
        refine gV rfl ?_
        obtain ⟨k3, hq8, hm14⟩ := bindS hm13
        refine q_idxA hq8 ?_
        cases hm14
        exact q G3 H3 E3 S3
end
end Mr

set_option Elab.async false
set_option linter.all false
set_option maxRecDepth 100000
set_option maxHeartbeats 4000000
set_option synthInstance.maxSize 4000
set_option synthInstance.maxHeartbeats 400000
namespace Mr
open PySem PySem.Spec PyProof.Rows L2 GFr
section
variable {P : Program} {w : World} {K : PySem.W.Frag} {mg : Str → Option Value} {base : Heap}
theorem sc_Face_told_pair : FnScope ["self", "left", "right"] ["self", "left", "right"] (defScope s_Face_told_pair) := ⟨rfl, rfl, rfl, by decide +kernel, rfl, by decide +kernel, by decide +kernel⟩
theorem ok_Face_told_pair (T : Tx K mg) : FnOk P w K mg base CX0 5 (He.fAd K ("Face", some "told_pair")) T.fd_Face_told_pair ["self", "left", "right"] (sp_Face_told_pair K) := by
  have G_Face_place_of := ok_Face_place_of (P := P) (w := w) (base := base) T
  obtain ⟨tk_LETTERS, c_LETTERS⟩ := T.c_LETTERS
  refine T.F_Face_told_pair.ok sc_Face_told_pair (fun vs H Q E h => ?_) (fun cdv A outer s H0 vs Q E hr h => ?_)
  · obtain ⟨G, O, v1, self1, left1, right1, rfl, _⟩ := h
    rfl
  · obtain ⟨G0, O, v1, self1, left1, right1, rfl, S0, h1, res, hm, q⟩ := h
    refine ⟨_, PSs.nox (pss_one (ps_ret (pe_dget (Nat.lt_trans (Nat.add_lt_add_left (show 1 < 64 by decide) _) hr.units) (pe_fld (pv 0) rfl) (pe_op op_addT (pe_ix ix_str (pe_glob (v := (V.str (e_T ([97, 98, 99, 100] : Wrd)))) (by rfl) c_LETTERS ⟨_, rfl⟩) (pe_meth (pv 0) T.cl_Face T.m_Face_place_of G_Face_place_of (hr.mono (by decide)) T.b_Face_place_of .nil pass0 (pa_cons (pv 1) pa_nil)) (fun _ _ => rfl)) (pe_ix ix_str (pe_glob (v := (V.str (e_T ([97, 98, 99, 100] : Wrd)))) (by rfl) c_LETTERS ⟨_, rfl⟩) (pe_meth (pv 0) T.cl_Face T.m_Face_place_of G_Face_place_of (hr.mono (by decide)) T.b_Face_place_of .nil pass0 (pa_cons (pv 2) pa_nil)) (fun _ _ => rfl))) (fun _ _ => rfl)))), ?_⟩
    have E0 := Ext.refl G0
    have hm0 : (Option.bind (m_Face_place_of self1 left1) fun r1 =>
  Option.bind (getT ([97, 98, 99, 100] : Wrd) r1) fun t1 =>
  Option.bind (m_Face_place_of self1 right1) fun r2 =>
  Option.bind (getT ([97, 98, 99, 100] : Wrd) r2) fun t2 =>
  Option.bind (catT t1 t2) fun t3 =>
  Option.bind (getW self1.gaps_and_bars t3) fun x1 =>
  some x1) = some res := hm
    refine gRet ?_
    refine gDGet ?_
    refine gFld ?_
    refine gV rfl ?_
    obtain ⟨v5, v6, v7, hI2, h5, h6, h7⟩ := (id h1)
    obtain rfl := (show v5 = (V.int self1.apart) from h5)
    obtain ⟨a2, d2, ev2, ha2⟩ := ins_prop S0 hI2
    refine ⟨a2, _, d2, _, _, ev2, ha2, T.cl_Face, T.n_Face_gaps_and_bars, rfl, ?_⟩
    refine gOp ?_
    refine gOp ?_
    refine gC ?_
    refine gMeth ?_
    refine gV rfl ?_
    obtain ⟨v8, v9, v10, hI3, h8, h9, h10⟩ := (id h1)
    obtain rfl := (show v8 = (V.int self1.apart) from h8)
    obtain ⟨a3, d3, ev3, ha3⟩ := ins_prop S0 hI3
    refine ⟨a3, d3, _, ev3, ha3, (by rfl), ?_⟩
    refine gCons' ?_
    refine gV rfl ?_
    refine gNil' ?_
    obtain ⟨r1, hq1, hm1⟩ := bindS hm0
    refine ⟨G0, (O), v1, self1, left1, rfl, S0, h1, r1, hq1, fun G1 H1 e1 S1 => ?_⟩
    have h11 := R.up e1 h1
    have h12 := R.up e1 h7
    have E1 := E0.trans e1
    obtain ⟨t1, hq2, hm2⟩ := bindS hm1
    refine q_ixTx hq2 ?_
    refine gOp ?_
    refine gC ?_
    refine gMeth ?_
    refine gV rfl ?_
    obtain ⟨v11, v12, v13, hI4, h13, h14, h15⟩ := (id h11)
    obtain rfl := (show v11 = (V.int self1.apart) from h13)
    obtain ⟨a4, d4, ev4, ha4⟩ := ins_prop S1 hI4
    refine ⟨a4, d4, _, ev4, ha4, (by rfl), ?_⟩
    refine gCons' ?_
    refine gV rfl ?_
    refine gNil' ?_
    obtain ⟨r2, hq3, hm3⟩ := bindS hm2
    refine ⟨G1, (O), v1, self1, right1, rfl, S1, h11, r2, hq3, fun G2 H2 e2 S2 => ?_⟩
    have h16 := R.up e2 h11
    have h17 := R.up e2 h12
    have E2 := E1.trans e2
    obtain ⟨t2, hq4, hm4⟩ := bindS hm3
    refine q_ixTx hq4 ?_
    obtain ⟨t3, hq5, hm5⟩ := bindS hm4
    refine q_catT hq5 ?_
    obtain ⟨x1, hq6, hm6⟩ := bindS hm5
    refine q_dget S2 h17 hq6 (fun v14 h18 => ?_)
    cases hm6
    exact q v14 G2 H2 E2 S2 h18
end
end Mr

set_option Elab.async false
set_option linter.all false
set_option maxRecDepth 100000
set_option maxHeartbeats 4000000
set_option synthInstance.maxSize 4000
set_option synthInstance.maxHeartbeats 400000
namespace Mr
open PySem PySem.Spec PyProof.Rows L2 GFr
section
variable {P : Program} {w : World} {K : PySem.W.Frag} {mg : Str → Option Value} {base : Heap}
theorem sc_Face_gap : FnScope ["self", "left", "right"] ["self", "left", "right"] (defScope s_Face_gap) := ⟨rfl, rfl, rfl, by decide +kernel, rfl, by decide +kernel, by decide +kernel⟩
theorem ok_Face_gap (T : Tx K mg) : FnOk P w K mg base CX0 6 (He.fAd K ("Face", some "gap")) T.fd_Face_gap ["self", "left", "right"] (sp_Face_gap K) := by
  have G_Face_told_pair := ok_Face_told_pair (P := P) (w := w) (base := base) T
  refine T.F_Face_gap.ok sc_Face_gap (fun vs H Q E h => ?_) (fun cdv A outer s H0 vs Q E hr h => ?_)
  · obtain ⟨G, O, v1, self1, left1, right1, rfl, _⟩ := h
    rfl
  · obtain ⟨G0, O, v1, self1, left1, right1, rfl, S0, h1, res, hm, q⟩ := h
    refine ⟨_, PSs.nox (pss_one (ps_ret (pe_ix ix_tup (pe_meth (pv 0) T.cl_Face T.m_Face_told_pair G_Face_told_pair (hr.mono (by decide)) T.b_Face_told_pair .nil pass0 (pa_cons (pv 1) (pa_cons (pv 2) pa_nil))) pe_int (fun _ _ => rfl)))), ?_⟩
    have E0 := Ext.refl G0
    have hm0 : (Option.bind (m_Face_told_pair self1 left1 right1) fun r2 =>
  some r2.1) = some res := hm
    refine gRet ?_
    refine gOp ?_
    refine gMeth ?_
    refine gV rfl ?_
    obtain ⟨v6, v7, v8, hI2, h7, h8, h9⟩ := (id h1)
    obtain rfl := (show v6 = (V.int self1.apart) from h7)
    obtain ⟨a2, d2, ev2, ha2⟩ := ins_prop S0 hI2
    refine ⟨a2, d2, _, ev2, ha2, (by rfl), ?_⟩
    refine gCons' ?_
    refine gV rfl ?_
    refine gCons' ?_
    refine gV rfl ?_
    refine gNil' ?_
    obtain ⟨r2, hq2, hm2⟩ := bindS hm0
    refine ⟨G0, (O), v1, self1, left1, right1, rfl, S0, h1, r2, hq2, fun v9 G2 H2 e2 S2 h10 => ?_⟩
    have h11 := R.up e2 h1
    have E2 := E0.trans e2
    refine gC ?_
    refine q_p2_0 S2 h10 (fun v10 h12 => ?_)
    obtain rfl := (show v10 = (V.int r2.1) from h12)
    cases hm2
    exact q G2 H2 E2 S2
end
end Mr

set_option Elab.async false
set_option linter.all false
set_option maxRecDepth 100000
set_option maxHeartbeats 4000000
set_option synthInstance.maxSize 4000
set_option synthInstance.maxHeartbeats 400000
namespace Mr
open PySem PySem.Spec PyProof.Rows L2 GFr
section
variable {P : Program} {w : World} {K : PySem.W.Frag} {mg : Str → Option Value} {base : Heap}
theorem sc_step_of : FnScope ["ink", "cells"] ["ink"] (defScope s_step_of) := ⟨rfl, rfl, rfl, by decide +kernel, rfl, by decide +kernel, by decide +kernel⟩
theorem ok_step_of (T : Tx K mg) : FnOk P w K mg base CX0 1 (He.fAd K ("step_of", none)) T.fd_step_of ["ink"] (sp_step_of K) := by
  refine T.F_step_of.ok sc_step_of (fun vs H Q E h => ?_) (fun cdv A outer s H0 vs Q E hr h => ?_)
  · obtain ⟨G, O, v1, ink1, rfl, _⟩ := h
    rfl
  · obtain ⟨G0, O, v1, ink1, rfl, S0, h1, res, hm, q⟩ := h
    refine ⟨_, PSs.nox (pss_one (ps_ret (pe_op op_add (pe_callB (r := rMax K) (cr_max rfl) (by rfl) T.z_max boot_max (pa_cons (pe_lc (own := [("cells", 1)]) (g := gName 1) (by rfl) sc_step_of.nd (pi_tup (pv 0)) (blkOk_by (own := [("cells", 1)]) (N := ["ink", "cells"]) (sc := defScope s_step_of) (by decide +kernel)) (fun _ _ _ _ _ => (pg_name (i := 1) sc_step_of.nd rfl (.inl rfl))) (fun _ _ _ _ _ => pts_nil) (fun _ _ _ _ _ => (pe_m1 PySem.F.slot_str_rfind PySem.F.type_str_rfind mt_rfindI (pv 1) (pe_strI (b := ([true] : Ink)) (by decide +kernel))))) pa_nil)) pe_int))), ?_⟩
    have E0 := Ext.refl G0
    have hm0 : (Option.bind (folM (m_step_of_c1) ink1 ([] : (List Int))) fun acc1 =>
  Option.bind (maxM acc1) fun x2 =>
  some (x2 + (1 : Int))) = some res := hm
    refine gRet ?_
    refine gOp ?_
    refine gCB ?_
    refine gCons' ?_
    refine gLc ?_
    refine gIT ?_
    refine gV rfl ?_
    obtain ⟨acc1, hq2, hm2⟩ := bindS hm0
    refine lc_T (r := (rEn e_Ink)) S0 h1 hq2 (fun (D : Addr) (s : (List Int)) (H : Hp) => ∃ (G : Hp) (w1 : List V), Ext G0 G ∧ Sub G ((D, HO.lst w1) :: O) H ∧ Al rInt G w1 s) ?_ ?_ ?_ ?_
    · intro D1 nD1
      exact ⟨G0, [], Ext.refl _, S0.newOwn nD1, True.intro⟩
    · intro D s H hI
      obtain ⟨G, k2, ie, iS, _⟩ := hI
      exact ie.trans iS.ext
    · intro D2 i1 x1 acc2 s2 hb1 hr1 v2 H1 hI1 h2
      obtain ⟨G1, w2, e1, S1, h3⟩ := hI1
      have h4 := R.up e1 h1
      have E1 := E0.trans e1
      obtain rfl := (show v2 = (V.str (e_Ink x1)) from h2)
      refine ⟨rfl, ?_⟩
      have hm3 : (Option.bind (rfnM x1) fun k3 =>   Option.bind (appM acc2 k3) fun acc3 =>   some acc3) = some s2 := hb1
      refine gYes ?_
      refine iteT ?_
      refine gM1 ?_
      refine gV rfl ?_
      refine ⟨⟨_, rfl⟩, ?_⟩
      refine gC ?_
      obtain ⟨k3, hq3, hm4⟩ := bindS hm3
      refine q_rfindI hq3 ?_
      obtain ⟨acc3, hq4, hm5⟩ := bindS hm4
      refine q_lcEl S1 h3 (show R.rel rInt G1 (V.int k3) k3 from rfl) hq4 (fun H2 w3 S2 h5 => ?_)
      cases hm5
      exact ⟨_, ⟨G1, w3, e1, S2, h5⟩, hr1⟩
    · intro D3 H3 hI2
      obtain ⟨G2, w4, e2, S3, h6⟩ := hI2
      have h7 := R.up e2 h1
      have E2 := E0.trans e2
      refine gNil' ?_
      obtain ⟨G3, e3, S4, h8⟩ := frz_M S3 h6
      have h9 := R.up e3 h7
      have E3 := E2.trans e3
      obtain ⟨x2, hq5, hm6⟩ := bindS hm2
      refine q_max S4 (rM_L (K := K) h8) hq5 ?_
      refine gC ?_
      refine ⟨_, _, rfl, rfl, ?_⟩
      cases hm6
      exact q G3 H3 E3 S4
end
end Mr

set_option Elab.async false
set_option linter.all false
set_option maxRecDepth 100000
set_option maxHeartbeats 4000000
set_option synthInstance.maxSize 4000
set_option synthInstance.maxHeartbeats 400000
namespace Mr
open PySem PySem.Spec PyProof.Rows L2 GFr
section
variable {P : Program} {w : World} {K : PySem.W.Frag} {mg : Str → Option Value} {base : Heap}
theorem sc_Face_ink : FnScope ["self", "letter"] ["self", "letter"] (defScope s_Face_ink) := ⟨rfl, rfl, rfl, by decide +kernel, rfl, by decide +kernel, by decide +kernel⟩
theorem ok_Face_ink (T : Tx K mg) : FnOk P w K mg base CX0 5 (He.fAd K ("Face", some "ink")) T.fd_Face_ink ["self", "letter"] (sp_Face_ink K) := by
  have G_Face_place_of := ok_Face_place_of (P := P) (w := w) (base := base) T
  refine T.F_Face_ink.ok sc_Face_ink (fun vs H Q E h => ?_) (fun cdv A outer s H0 vs Q E hr h => ?_)
  · obtain ⟨G, O, v1, self1, letter1, rfl, _⟩ := h
    rfl
  · obtain ⟨G0, O, v1, self1, letter1, rfl, S0, h1, res, hm, q⟩ := h
    refine ⟨_, PSs.nox (pss_one (ps_ret (pe_ix ix_tup (pe_fld (pv 0) rfl) (pe_meth (pv 0) T.cl_Face T.m_Face_place_of G_Face_place_of (hr.mono (by decide)) T.b_Face_place_of .nil pass0 (pa_cons (pv 1) pa_nil)) (fun _ _ => rfl)))), ?_⟩
    have E0 := Ext.refl G0
    have hm0 : (Option.bind (m_Face_place_of self1 letter1) fun r1 =>
  Option.bind (getM self1.inks r1) fun x1 =>
  some x1) = some res := hm
    refine gRet ?_
    refine gOp ?_
    refine gFld ?_
    refine gV rfl ?_
    obtain ⟨v5, v6, v7, hI2, h5, h6, h7⟩ := (id h1)
    obtain rfl := (show v5 = (V.int self1.apart) from h5)
    obtain ⟨a2, d2, ev2, ha2⟩ := ins_prop S0 hI2
    refine ⟨a2, _, d2, _, _, ev2, ha2, T.cl_Face, T.n_Face_inks, rfl, ?_⟩
    refine gMeth ?_
    refine gV rfl ?_
    obtain ⟨v8, v9, v10, hI3, h8, h9, h10⟩ := (id h1)
    obtain rfl := (show v8 = (V.int self1.apart) from h8)
    obtain ⟨a3, d3, ev3, ha3⟩ := ins_prop S0 hI3
    refine ⟨a3, d3, _, ev3, ha3, (by rfl), ?_⟩
    refine gCons' ?_
    refine gV rfl ?_
    refine gNil' ?_
    obtain ⟨r1, hq1, hm1⟩ := bindS hm0
    refine ⟨G0, (O), v1, self1, letter1, rfl, S0, h1, r1, hq1, fun G1 H1 e1 S1 => ?_⟩
    have h11 := R.up e1 h1
    have h12 := R.up e1 h6
    have E1 := E0.trans e1
    obtain ⟨x1, hq2, hm2⟩ := bindS hm1
    refine q_ixT S1 h12 hq2 (fun v11 h13 => ?_)
    cases hm2
    exact q v11 G1 H1 E1 S1 h13
end
end Mr

set_option Elab.async false
set_option linter.all false
set_option maxRecDepth 100000
set_option maxHeartbeats 4000000
set_option synthInstance.maxSize 4000
set_option synthInstance.maxHeartbeats 400000
namespace Mr
open PySem PySem.Spec PyProof.Rows L2 GFr
section
variable {P : Program} {w : World} {K : PySem.W.Frag} {mg : Str → Option Value} {base : Heap}
theorem sc_Face_step : FnScope ["self", "letter"] ["self", "letter"] (defScope s_Face_step) := ⟨rfl, rfl, rfl, by decide +kernel, rfl, by decide +kernel, by decide +kernel⟩
theorem ok_Face_step (T : Tx K mg) : FnOk P w K mg base CX0 6 (He.fAd K ("Face", some "step")) T.fd_Face_step ["self", "letter"] (sp_Face_step K) := by
  have G_Face_ink := ok_Face_ink (P := P) (w := w) (base := base) T
  have G_step_of := ok_step_of (P := P) (w := w) (base := base) T
  refine T.F_Face_step.ok sc_Face_step (fun vs H Q E h => ?_) (fun cdv A outer s H0 vs Q E hr h => ?_)
  · obtain ⟨G, O, v1, self1, letter1, rfl, _⟩ := h
    rfl
  · obtain ⟨G0, O, v1, self1, letter1, rfl, S0, h1, res, hm, q⟩ := h
    refine ⟨_, PSs.nox (pss_one (ps_ret (pe_call G_step_of (hr.mono (by decide)) (by rfl) T.g_step_of T.F_step_of.kp T.b_step_of .nil pass0 (pa_cons (pe_meth (pv 0) T.cl_Face T.m_Face_ink G_Face_ink (hr.mono (by decide)) T.b_Face_ink .nil pass0 (pa_cons (pv 1) pa_nil)) pa_nil)))), ?_⟩
    have E0 := Ext.refl G0
    have hm0 : (Option.bind (m_Face_ink self1 letter1) fun r1 =>
  Option.bind (m_step_of r1) fun r2 =>
  some r2) = some res := hm
    refine gRet ?_
    refine gCall ?_
    refine gCons' ?_
    refine gMeth ?_
    refine gV rfl ?_
    obtain ⟨v2, v3, v4, hI1, h2, h3, h4⟩ := (id h1)
    obtain rfl := (show v2 = (V.int self1.apart) from h2)
    obtain ⟨a1, d1, ev1, ha1⟩ := ins_prop S0 hI1
    refine ⟨a1, d1, _, ev1, ha1, (by rfl), ?_⟩
    refine gCons' ?_
    refine gV rfl ?_
    refine gNil' ?_
    obtain ⟨r1, hq1, hm1⟩ := bindS hm0
    refine ⟨G0, (O), v1, self1, letter1, rfl, S0, h1, r1, hq1, fun v5 G1 H1 e1 S1 h5 => ?_⟩
    have h6 := R.up e1 h1
    have E1 := E0.trans e1
    refine gNil' ?_
    obtain ⟨r2, hq2, hm2⟩ := bindS hm1
    refine ⟨G1, (O), v5, r1, rfl, S1, h5, r2, hq2, fun G2 H2 e2 S2 => ?_⟩
    have h7 := R.up e2 h6
    have E2 := E1.trans e2
    cases hm2
    exact q G2 H2 E2 S2
end
end Mr

set_option Elab.async false
set_option linter.all false
set_option maxRecDepth 100000
set_option maxHeartbeats 4000000
set_option synthInstance.maxSize 4000
set_option synthInstance.maxHeartbeats 400000
namespace Mr
open PySem PySem.Spec PyProof.Rows L2 GFr
section
variable {P : Program} {w : World} {K : PySem.W.Frag} {mg : Str → Option Value} {base : Heap}
theorem sc_columns : FnScope ["face", "word", "found", "k", "left", "right"] ["face", "word"] (defScope s_columns) := ⟨rfl, rfl, rfl, by decide +kernel, rfl, by decide +kernel, by decide +kernel⟩
theorem ok_columns (T : Tx K mg) : FnOk P w K mg base CX0 7 (He.fAd K ("columns", none)) T.fd_columns ["face", "word"] (sp_columns K) := by
  have G_Face_gap := ok_Face_gap (P := P) (w := w) (base := base) T
  have G_Face_step := ok_Face_step (P := P) (w := w) (base := base) T
  have G_is_word := ok_is_word (P := P) (w := w) (base := base) T
  refine T.F_columns.ok sc_columns (fun vs H Q E h => ?_) (fun cdv A outer s H0 vs Q E hr h => ?_)
  · obtain ⟨G, O, v1, face1, word1, rfl, _⟩ := h
    rfl
  · obtain ⟨G0, O, v1, face1, word1, rfl, S0, h1, res, hm, q⟩ := h
    refine ⟨_, PSs.nox (pss_cons (ps_if (pt_not (pt_val (pe_call G_is_word (hr.mono (by decide)) (by rfl) T.g_is_word T.F_is_word.kp T.b_is_word .nil pass0 (pa_cons (pv 0) (pa_cons (pv 1) pa_nil))))) (pss_one ps_never) pss_nil)
      (pss_cons (ps_set (i := 2) sc_columns.nd rfl (.inl rfl) (pe_lst (pa_cons pe_int pa_nil)))
      (pss_cons (ps_cut (ps_for PassesOwn.never rfl (pi_range2 (by rfl) T.z_range (pa_cons pe_int (pa_cons (pe_callB (r := rLenS) call_lenS (by rfl) T.z_len boot_len (pa_cons (pv 1) pa_nil)) pa_nil))) (pg_name (i := 3) sc_columns.nd rfl (.inl rfl))
      (pss_cons (ps_par (i := 4) (j := 5) (by rfl) sc_columns.nd rfl rfl (by decide) rfl rfl (pa_cons (pe_ix ix_str (pv 1) (pe_op op_sub (pv 3) pe_int) (fun _ _ => rfl)) (pa_cons (pe_ix ix_str (pv 1) (pv 3) (fun _ _ => rfl)) pa_nil)) (by rfl))
      (pss_one (ps_expr (pe_bm PySem.F.plainAttrs_list PySem.F.slot_list_append PySem.F.type_list_append mt_append (pv 2) (pa_cons (pe_op op_add (pe_op op_add (pe_ix ix_list (pv 2) (pe_un un_neg pe_int) (fun _ _ => rfl)) (pe_meth (pv 0) T.cl_Face T.m_Face_step G_Face_step (hr.mono (by decide)) T.b_Face_step .nil pass0 (pa_cons (pv 4) pa_nil))) (pe_meth (pv 0) T.cl_Face T.m_Face_gap G_Face_gap (hr.mono (by decide)) T.b_Face_gap .nil pass0 (pa_cons (pv 4) (pa_cons (pv 5) pa_nil)))) pa_nil)))))))
      (pss_one (ps_ret (pv 2)))))), ?_⟩
    have E0 := Ext.refl G0
    have hm0 : (Option.bind (m_is_word face1 word1) fun r2 =>
  if (!r2) then (none)
  else (Option.bind (lenT word1) fun k1 =>
  Option.bind (rng2M (1 : Int) k1) fun xs1 =>
  Option.bind (folM (m_columns_b1 face1 word1) xs1 ([(0 : Int)] : List Int)) fun found1 =>
  some found1)) = some res := hm
    refine gS_IfS ?_
    refine gNot ?_
    refine gB ?_
    refine gCall ?_
    refine gCons' ?_
    refine gV rfl ?_
    refine gCons' ?_
    refine gV rfl ?_
    refine gNil' ?_
    obtain ⟨r2, hq2, hm2⟩ := bindS hm0
    refine ⟨G0, (O), v1, face1, word1, rfl, S0, h1, r2, hq2, fun G2 H2 e2 S2 => ?_⟩
    have h3 := R.up e2 h1
    have E2 := E0.trans e2
    refine ⟨r2, rfl, ?_⟩
    refine ite2 (fun c1 => ?_) (fun c1 => ?_)
    · skip
      have hm3 := (if_pos c1).symm.trans hm2
      cases hm3
    · skip
      have hm4 := (if_neg c1).symm.trans hm2
      refine gNext ?_
      refine gE ?_
      refine gS_AsgN ?_
      refine gLst ?_
      refine gCons' ?_
      refine gC ?_
      refine gNil' ?_
      have h4 : Al rInt G2 [(V.int (0 : Int))] [(0 : Int)] := ⟨rfl, True.intro⟩
      refine q_lst S2 h4 (by show 1 ≤ 100000; decide) (fun a1 H3 w1 S3 h5 => ?_)
      obtain ⟨k1, hq3, hm5⟩ := bindS hm4
      obtain ⟨xs1, hq4, hm6⟩ := bindS hm5
      obtain ⟨found1, hl1, hm7⟩ := bindS hm6
      refine gS_CS (fun (σ : L2.St) (H : Hp) => ∃ (G : Hp) (w2 : List V) (y1 : Option V) (y2 : Option V) (y3 : Option V), Ext G2 G ∧ Sub G ((a1, HO.lst w2) :: O) H ∧ σ = [some v1, some (V.str (e_T word1)), some (V.ref a1), y1, y2, y3] ∧ Al rInt G w2 found1) ?_ ?_
      · skip
        refine gFor ?_
        refine gIR2 ?_
        refine gCons' ?_
        refine gC ?_
        refine gCons' ?_
        refine gCB ?_
        refine gCons' ?_
        refine gV rfl ?_
        refine gNil' ?_
        refine q_lenT' hq3 ?_
        refine gNil' ?_
        refine lp_R2 hq4 (fol_for Empty hl1) (fun (s : (List Int)) (σ : L2.St) (H : Hp) => ∃ (G : Hp) (w2 : List V) (y1 : Option V) (y2 : Option V) (y3 : Option V), Ext G2 G ∧ Sub G ((a1, HO.lst w2) :: O) H ∧ σ = [some v1, some (V.str (e_T word1)), some (V.ref a1), y1, y2, y3] ∧ Al rInt G w2 s) ⟨G2, w1, _, _, _, (Ext.refl _), S3, rfl, h5⟩ ?_ ?_
        · intro i1 x1 found2 b1 hb1 hr1 σ1 H4 hI1
          obtain ⟨s2, hb2, hb3⟩ := goF_some hb1
          subst hb3
          obtain ⟨G3, w3, y4, y5, y6, e3, S4, rfl, h7⟩ := hI1
          have h8 := R.up e3 h3
          have E3 := E2.trans e3
          have hm8 : (Option.bind (getT word1 (x1 - (1 : Int))) fun t1 =>   Option.bind (getT word1 x1) fun t2 =>   Option.bind (getM found2 (-(1 : Int))) fun x2 =>   Option.bind (m_Face_step face1 t1) fun r3 =>   Option.bind (m_Face_gap face1 t1 t2) fun r4 =>   Option.bind (appM found2 ((x2 + r3) + r4)) fun found3 =>   some found3) = some s2 := hb2
          refine gS_Par ?_
          refine gCons' ?_
          refine gOp ?_
          refine gV rfl ?_
          refine gOp ?_
          refine gV rfl ?_
          refine gC ?_
          refine ⟨_, _, rfl, rfl, ?_⟩
          obtain ⟨t1, hq5, hm9⟩ := bindS hm8
          refine q_ixTx hq5 ?_
          refine gCons' ?_
          refine gOp ?_
          refine gV rfl ?_
          refine gV rfl ?_
          obtain ⟨t2, hq6, hm10⟩ := bindS hm9
          refine q_ixTx hq6 ?_
          refine gNil' ?_
          refine ⟨_, _, rfl, ?_⟩
          refine gDrop ?_
          refine gBM ?_
          refine gV rfl ?_
          refine ⟨.inl ⟨rfl, _, .inl (.inl S4.head)⟩, ?_⟩
          refine gCons' ?_
          refine gOp ?_
          refine gOp ?_
          refine gOp ?_
          refine gV rfl ?_
          refine gUn ?_
          refine gC ?_
          refine ⟨_, rfl, ?_⟩
          obtain ⟨x2, hq7, hm11⟩ := bindS hm10
          refine q_ixO S4 h7 hq7 (fun v3 h9 => ?_)
          obtain rfl := (show v3 = (V.int x2) from h9)
          refine gMeth ?_
          refine gV rfl ?_
          obtain ⟨v4, v5, v6, hI2, h10, h11, h12⟩ := (id h8)
          obtain rfl := (show v4 = (V.int face1.apart) from h10)
          obtain ⟨a2, d1, ev1, ha1⟩ := ins_prop S4 hI2
          refine ⟨a2, d1, _, ev1, ha1, (by rfl), ?_⟩
          refine gCons' ?_
          refine gV rfl ?_
          refine gNil' ?_
          obtain ⟨r3, hq8, hm12⟩ := bindS hm11
          refine ⟨G3, ((a1, HO.lst w3) :: O), v1, face1, t1, rfl, S4, h8, r3, hq8, fun G4 H5 e4 S5 => ?_⟩
          have h13 := R.up e4 h8
          have h14 := Al.up e4 h7
          have E4 := E3.trans e4
          refine ⟨_, _, rfl, rfl, ?_⟩
          refine gMeth ?_
          refine gV rfl ?_
          obtain ⟨v7, v8, v9, hI3, h15, h16, h17⟩ := (id h13)
          obtain rfl := (show v7 = (V.int face1.apart) from h15)
          obtain ⟨a3, d2, ev2, ha2⟩ := ins_prop S5 hI3
          refine ⟨a3, d2, _, ev2, ha2, (by rfl), ?_⟩
          refine gCons' ?_
          refine gV rfl ?_
          refine gCons' ?_
          refine gV rfl ?_
          refine gNil' ?_
          obtain ⟨r4, hq9, hm13⟩ := bindS hm12
          refine ⟨G4, ((a1, HO.lst w3) :: O), v1, face1, t1, t2, rfl, S5, h13, r4, hq9, fun G5 H6 e5 S6 => ?_⟩
          have h18 := R.up e5 h13
          have h19 := Al.up e5 h14
          have E5 := E4.trans e5
          refine ⟨_, _, rfl, rfl, ?_⟩
          refine gNil' ?_
          obtain ⟨found3, hq10, hm14⟩ := bindS hm13
          refine q_app S6 h19 (show R.rel rInt G5 (V.int ((x2 + r3) + r4)) ((x2 + r3) + r4) from rfl) hq10 (fun H7 w4 S7 h20 => ?_)
          cases hm14
          exact ⟨_, ⟨G5, w4, _, _, _, ((e3.trans e4).trans e5), S7, rfl, h20⟩, hr1⟩
        · intro s σ H h1 h2
          cases h1
          obtain ⟨G, k2, k3, k4, k5, ie, irest⟩ := h2
          exact ⟨G, k2, k3, k4, k5, (ie), irest⟩
      · intro σ2 H8 hJ1
        obtain ⟨G6, w5, y7, y8, y9, e6, S8, rfl, h21⟩ := hJ1
        have h22 := R.up e6 h3
        have E6 := E2.trans e6
        refine gRet ?_
        refine gV rfl ?_
        cases hm7
        exact q a1 w5 G6 H8 E6 S8 h21
end
end Mr

set_option Elab.async false
set_option linter.all false
set_option maxRecDepth 100000
set_option maxHeartbeats 4000000
set_option synthInstance.maxSize 4000
set_option synthInstance.maxHeartbeats 400000
namespace Mr
open PySem PySem.Spec PyProof.Rows L2 GFr
section
variable {P : Program} {w : World} {K : PySem.W.Frag} {mg : Str → Option Value} {base : Heap}
theorem ok_columns__1 (T : Tx K mg) : FnOk P w K mg base (L2.CX P w) 7 (He.fAd K ("columns", none)) T.fd_columns ["face", "word"] (sp_columns__1 K) := by
  have G_Face_gap := ok_Face_gap (P := P) (w := w) (base := base) T
  have G_Face_step := ok_Face_step (P := P) (w := w) (base := base) T
  have G_is_word__1 := ok_is_word__1 (P := P) (w := w) (base := base) T
  refine T.F_columns.ok sc_columns (fun vs H Q E h => ?_) (fun cdv A outer s H0 vs Q E hr h => ?_)
  · obtain ⟨G, O, v1, face1, v2, word1, rfl, _⟩ := h
    rfl
  · obtain ⟨G0, O, v1, face1, v2, word1, rfl, S0, h1, h2, res, hm, q, qE⟩ := h
    refine ⟨_, (pss_cons (ps_if (pt_not (pt_val (pe_call G_is_word__1 (hr.mono (by decide)) (by rfl) T.g_is_word T.F_is_word.kp T.b_is_word .nil pass0 (pa_cons (pv 0) (pa_cons (pv 1) pa_nil))))) (pss_one (ps_raise rfl (takes_of rfl rfl rfl rfl) (pmk_oex T.x_BadWord.oex T.x_BadWord.ini T.x_BadWord.tI (ok_x_BadWord T) (hr.mono (by decide)) T.bx_BadWord .nil pass0 (by rfl) T.gx_BadWord (pa_cons (pv 1) pa_nil)))) pss_nil)
      (pss_cons (ps_set (i := 2) sc_columns.nd rfl (.inl rfl) (pe_lst (pa_cons pe_int pa_nil)))
      (pss_cons (ps_cut (ps_for (passes_of rfl) rfl (pi_range2 (by rfl) T.z_range (pa_cons pe_int (pa_cons (pe_callB (r := rLenS) call_lenS (by rfl) T.z_len boot_len (pa_cons (pv 1) pa_nil)) pa_nil))) (pg_name (i := 3) sc_columns.nd rfl (.inl rfl))
      (pss_cons (ps_par (i := 4) (j := 5) (by rfl) sc_columns.nd rfl rfl (by decide) rfl rfl (pa_cons (pe_ix ix_str (pv 1) (pe_op op_sub (pv 3) pe_int) (fun _ _ => rfl)) (pa_cons (pe_ix ix_str (pv 1) (pv 3) (fun _ _ => rfl)) pa_nil)) (by rfl))
      (pss_one (ps_expr (pe_bm PySem.F.plainAttrs_list PySem.F.slot_list_append PySem.F.type_list_append mt_append (pv 2) (pa_cons (pe_op op_add (pe_op op_add (pe_ix ix_list (pv 2) (pe_un un_neg pe_int) (fun _ _ => rfl)) (pe_meth (pv 0) T.cl_Face T.m_Face_step G_Face_step (hr.mono (by decide)) T.b_Face_step .nil pass0 (pa_cons (pv 4) pa_nil))) (pe_meth (pv 0) T.cl_Face T.m_Face_gap G_Face_gap (hr.mono (by decide)) T.b_Face_gap .nil pass0 (pa_cons (pv 4) (pa_cons (pv 5) pa_nil)))) pa_nil)))))))
      (pss_one (ps_ret (pv 2)))))), ?_⟩
    have E0 := Ext.refl G0
    have hm0 : (Option.bind (m_is_word__1 face1 word1) fun r2 =>
  if (!r2) then (Option.bind (fmtM (toA word1)) fun u1 =>
  some (Rs.er (ExM.BadWord (toA word1))))
  else (Option.bind (toW word1) fun w2 =>
  Option.bind (lenT w2) fun k1 =>
  Option.bind (rng2M (1 : Int) k1) fun xs1 =>
  Option.bind (folM (m_columns__1_b1 face1 w2) xs1 ([(0 : Int)] : List Int)) fun found1 =>
  some (Rs.ok found1))) = some res := hm
    refine gS_IfS ?_
    refine gNot ?_
    refine gB ?_
    refine gCall ?_
    refine gCons' ?_
    refine gV rfl ?_
    refine gCons' ?_
    refine gV rfl ?_
    refine gNil' ?_
    obtain ⟨r2, hq2, hm2⟩ := bindS hm0
    refine ⟨G0, (O), v1, face1, v2, word1, rfl, S0, h1, h2, r2, hq2, fun G2 H2 e2 S2 => ?_⟩
    have h5 := R.up e2 h1
    have h6 := R.up e2 h2
    have E2 := E0.trans e2
    refine ⟨r2, rfl, ?_⟩
    refine ite2 (fun c1 => ?_) (fun c1 => ?_)
    · skip
      have hm3 := (if_pos c1).symm.trans hm2
      refine gRaise ?_
      refine gCons' ?_
      refine gV rfl ?_
      refine gNil' ?_
      obtain ⟨u1, hq3, hm4⟩ := bindS hm3
      refine q_mk1 S2 (rTO_any h6) (fmtM_some hq3) (fun dd1 G3 H3 e3 S3 h7 => ?_)
      cases hm4
      exact qE _ rfl _ _ G3 H3 (E2.trans e3) S3 ⟨rfl, dd1, _, rfl, h7, R.up e3 (rTO_any h6)⟩
    · skip
      have hm5 := (if_neg c1).symm.trans hm2
      refine gNext ?_
      refine gE ?_
      refine gS_AsgN ?_
      refine gLst ?_
      refine gCons' ?_
      refine gC ?_
      refine gNil' ?_
      have h8 : Al rInt G2 [(V.int (0 : Int))] [(0 : Int)] := ⟨rfl, True.intro⟩
      refine q_lst S2 h8 (by show 1 ≤ 100000; decide) (fun a1 H4 w1 S4 h9 => ?_)
      obtain ⟨w2, hq4, hm6⟩ := bindS hm5
      obtain ⟨k1, hq5, hm7⟩ := bindS hm6
      obtain ⟨xs1, hq6, hm8⟩ := bindS hm7
      obtain ⟨found1, hl1, hm9⟩ := bindS hm8
      refine gS_CS (fun (σ : L2.St) (H : Hp) => ∃ (G : Hp) (w3 : List V) (y1 : Option V) (y2 : Option V) (y3 : Option V), Ext G2 G ∧ Sub G ((a1, HO.lst w3) :: O) H ∧ σ = [some v1, some (V.str (e_T w2)), some (V.ref a1), y1, y2, y3] ∧ Al rInt G w3 found1) ?_ ?_
      · skip
        refine gFor ?_
        refine gIR2 ?_
        refine gCons' ?_
        refine gC ?_
        refine gCons' ?_
        refine gCB ?_
        refine gCons' ?_
        refine gV rfl ?_
        refine gNil' ?_
        obtain rfl := rTO_get h6 hq4
        refine q_lenT' hq5 ?_
        refine gNil' ?_
        refine lp_R2 hq6 (fol_for Empty hl1) (fun (s : (List Int)) (σ : L2.St) (H : Hp) => ∃ (G : Hp) (w3 : List V) (y1 : Option V) (y2 : Option V) (y3 : Option V), Ext G2 G ∧ Sub G ((a1, HO.lst w3) :: O) H ∧ σ = [some v1, some (V.str (e_T w2)), some (V.ref a1), y1, y2, y3] ∧ Al rInt G w3 s) ⟨G2, w1, _, _, _, (Ext.refl _), S4, rfl, h9⟩ ?_ ?_
        · intro i1 x1 found2 b1 hb1 hr1 σ1 H5 hI1
          obtain ⟨s2, hb2, hb3⟩ := goF_some hb1
          subst hb3
          obtain ⟨G4, w4, y4, y5, y6, e4, S5, rfl, h11⟩ := hI1
          have h12 := R.up e4 h5
          have h13 := R.up e4 h6
          have E3 := E2.trans e4
          have hm10 : (Option.bind (getT w2 (x1 - (1 : Int))) fun t1 =>   Option.bind (getT w2 x1) fun t2 =>   Option.bind (getM found2 (-(1 : Int))) fun x2 =>   Option.bind (m_Face_step face1 t1) fun r3 =>   Option.bind (m_Face_gap face1 t1 t2) fun r4 =>   Option.bind (appM found2 ((x2 + r3) + r4)) fun found3 =>   some found3) = some s2 := hb2
          refine gS_Par ?_
          refine gCons' ?_
          refine gOp ?_
          refine gV rfl ?_
          refine gOp ?_
          refine gV rfl ?_
          refine gC ?_
          refine ⟨_, _, rfl, rfl, ?_⟩
          obtain ⟨t1, hq7, hm11⟩ := bindS hm10
          refine q_ixTx hq7 ?_
          refine gCons' ?_
          refine gOp ?_
          refine gV rfl ?_
          refine gV rfl ?_
          obtain ⟨t2, hq8, hm12⟩ := bindS hm11
          refine q_ixTx hq8 ?_
          refine gNil' ?_
          refine ⟨_, _, rfl, ?_⟩
          refine gDrop ?_
          refine gBM ?_
          refine gV rfl ?_
          refine ⟨.inl ⟨rfl, _, .inl (.inl S5.head)⟩, ?_⟩
          refine gCons' ?_
          refine gOp ?_
          refine gOp ?_
          refine gOp ?_
          refine gV rfl ?_
          refine gUn ?_
          refine gC ?_
          refine ⟨_, rfl, ?_⟩
          obtain ⟨x2, hq9, hm13⟩ := bindS hm12
          refine q_ixO S5 h11 hq9 (fun v4 h14 => ?_)
          obtain rfl := (show v4 = (V.int x2) from h14)
          refine gMeth ?_
          refine gV rfl ?_
          obtain ⟨v5, v6, v7, hI2, h15, h16, h17⟩ := (id h12)
          obtain rfl := (show v5 = (V.int face1.apart) from h15)
          obtain ⟨a2, d1, ev1, ha1⟩ := ins_prop S5 hI2
          refine ⟨a2, d1, _, ev1, ha1, (by rfl), ?_⟩
          refine gCons' ?_
          refine gV rfl ?_
          refine gNil' ?_
          obtain ⟨r3, hq10, hm14⟩ := bindS hm13
          refine ⟨G4, ((a1, HO.lst w4) :: O), v1, face1, t1, rfl, S5, h12, r3, hq10, fun G5 H6 e5 S6 => ?_⟩
          have h18 := R.up e5 h12
          have h19 := R.up e5 h13
          have h20 := Al.up e5 h11
          have E4 := E3.trans e5
          refine ⟨_, _, rfl, rfl, ?_⟩
          refine gMeth ?_
          refine gV rfl ?_
          obtain ⟨v8, v9, v10, hI3, h21, h22, h23⟩ := (id h18)
          obtain rfl := (show v8 = (V.int face1.apart) from h21)
          obtain ⟨a3, d2, ev2, ha2⟩ := ins_prop S6 hI3
          refine ⟨a3, d2, _, ev2, ha2, (by rfl), ?_⟩
          refine gCons' ?_
          refine gV rfl ?_
          refine gCons' ?_
          refine gV rfl ?_
          refine gNil' ?_
          obtain ⟨r4, hq11, hm15⟩ := bindS hm14
          refine ⟨G5, ((a1, HO.lst w4) :: O), v1, face1, t1, t2, rfl, S6, h18, r4, hq11, fun G6 H7 e6 S7 => ?_⟩
          have h24 := R.up e6 h18
          have h25 := R.up e6 h19
          have h26 := Al.up e6 h20
          have E5 := E4.trans e6
          refine ⟨_, _, rfl, rfl, ?_⟩
          refine gNil' ?_
          obtain ⟨found3, hq12, hm16⟩ := bindS hm15
          refine q_app S7 h26 (show R.rel rInt G6 (V.int ((x2 + r3) + r4)) ((x2 + r3) + r4) from rfl) hq12 (fun H8 w5 S8 h27 => ?_)
          cases hm16
          exact ⟨_, ⟨G6, w5, _, _, _, ((e4.trans e5).trans e6), S8, rfl, h27⟩, hr1⟩
        · intro s σ H h1 h2
          cases h1
          obtain ⟨G, k2, k3, k4, k5, ie, irest⟩ := h2
          exact ⟨G, k2, k3, k4, k5, (ie), irest⟩
      · intro σ2 H9 hJ1
        obtain ⟨G7, w6, y7, y8, y9, e7, S9, rfl, h28⟩ := hJ1
        have h29 := R.up e7 h5
        have h30 := R.up e7 h6
        have E6 := E2.trans e7
        refine gRet ?_
        refine gV rfl ?_
        obtain ⟨G8, e8, S10, h31⟩ := frz_M S9 h28
        have h32 := R.up e8 h29
        have h33 := R.up e8 h30
        have E7 := E6.trans e8
        cases hm9
        exact q _ rfl (V.ref a1) G8 H9 E7 S10 h31
end
end Mr

set_option Elab.async false
set_option linter.all false
set_option maxRecDepth 100000
set_option maxHeartbeats 4000000
set_option synthInstance.maxSize 4000
set_option synthInstance.maxHeartbeats 400000
namespace Mr
open PySem PySem.Spec PyProof.Rows L2 GFr
section
variable {P : Program} {w : World} {K : PySem.W.Frag} {mg : Str → Option Value} {base : Heap}
theorem sc_width : FnScope ["face", "word"] ["face", "word"] (defScope s_width) := ⟨rfl, rfl, rfl, by decide +kernel, rfl, by decide +kernel, by decide +kernel⟩
theorem ok_width (T : Tx K mg) : FnOk P w K mg base CX0 8 (He.fAd K ("width", none)) T.fd_width ["face", "word"] (sp_width K) := by
  have G_Face_step := ok_Face_step (P := P) (w := w) (base := base) T
  have G_columns := ok_columns (P := P) (w := w) (base := base) T
  refine T.F_width.ok sc_width (fun vs H Q E h => ?_) (fun cdv A outer s H0 vs Q E hr h => ?_)
  · obtain ⟨G, O, v1, face1, word1, rfl, _⟩ := h
    rfl
  · obtain ⟨G0, O, v1, face1, word1, rfl, S0, h1, res, hm, q⟩ := h
    refine ⟨_, PSs.nox (pss_one (ps_ret (pe_op op_add (pe_ix ix_list (pe_call G_columns (hr.mono (by decide)) (by rfl) T.g_columns T.F_columns.kp T.b_columns .nil pass0 (pa_cons (pv 0) (pa_cons (pv 1) pa_nil))) (pe_un un_neg pe_int) (fun _ _ => rfl)) (pe_meth (pv 0) T.cl_Face T.m_Face_step G_Face_step (hr.mono (by decide)) T.b_Face_step .nil pass0 (pa_cons (pe_ix ix_str (pv 1) (pe_un un_neg pe_int) (fun _ _ => rfl)) pa_nil))))), ?_⟩
    have E0 := Ext.refl G0
    have hm0 : (Option.bind (m_columns face1 word1) fun r2 =>
  Option.bind (getM r2 (-(1 : Int))) fun x1 =>
  Option.bind (getT word1 (-(1 : Int))) fun t1 =>
  Option.bind (m_Face_step face1 t1) fun r3 =>
  some (x1 + r3)) = some res := hm
    refine gRet ?_
    refine gOp ?_
    refine gOp ?_
    refine gCall ?_
    refine gCons' ?_
    refine gV rfl ?_
    refine gCons' ?_
    refine gV rfl ?_
    refine gNil' ?_
    obtain ⟨r2, hq2, hm2⟩ := bindS hm0
    refine ⟨G0, (O), v1, face1, word1, rfl, S0, h1, r2, hq2, fun a2 w2 G2 H2 e2 S2 h4 => ?_⟩
    have h5 := R.up e2 h1
    have E2 := E0.trans e2
    refine gUn ?_
    refine gC ?_
    refine ⟨_, rfl, ?_⟩
    obtain ⟨x1, hq3, hm3⟩ := bindS hm2
    refine q_ixO S2 h4 hq3 (fun v2 h6 => ?_)
    obtain rfl := (show v2 = (V.int x1) from h6)
    refine gMeth ?_
    refine gV rfl ?_
    obtain ⟨v3, v4, v5, hI1, h7, h8, h9⟩ := (id h5)
    obtain rfl := (show v3 = (V.int face1.apart) from h7)
    obtain ⟨a3, d1, ev1, ha1⟩ := ins_prop S2 hI1
    refine ⟨a3, d1, _, ev1, ha1, (by rfl), ?_⟩
    refine gCons' ?_
    refine gOp ?_
    refine gV rfl ?_
    refine gUn ?_
    refine gC ?_
    refine ⟨_, rfl, ?_⟩
    obtain ⟨t1, hq4, hm4⟩ := bindS hm3
    refine q_ixTx hq4 ?_
    refine gNil' ?_
    obtain ⟨r3, hq5, hm5⟩ := bindS hm4
    refine ⟨G2, ((a2, HO.lst w2) :: O), v1, face1, t1, rfl, S2, h5, r3, hq5, fun G3 H3 e3 S3 => ?_⟩
    have h10 := R.up e3 h5
    have E3 := E2.trans e3
    refine ⟨_, _, rfl, rfl, ?_⟩
    have S4 := S3.tail
    cases hm5
    exact q G3 H3 E3 S4
end
end Mr

set_option Elab.async false
set_option linter.all false
set_option maxRecDepth 100000
set_option maxHeartbeats 4000000
set_option synthInstance.maxSize 4000
set_option synthInstance.maxHeartbeats 400000
namespace Mr
open PySem PySem.Spec PyProof.Rows L2 GFr
section
variable {P : Program} {w : World} {K : PySem.W.Frag} {mg : Str → Option Value} {base : Heap}
theorem ok_width__1 (T : Tx K mg) : FnOk P w K mg base (L2.CX P w) 8 (He.fAd K ("width", none)) T.fd_width ["face", "word"] (sp_width__1 K) := by
  have G_Face_step := ok_Face_step (P := P) (w := w) (base := base) T
  have G_columns__1 := ok_columns__1 (P := P) (w := w) (base := base) T
  refine T.F_width.ok sc_width (fun vs H Q E h => ?_) (fun cdv A outer s H0 vs Q E hr h => ?_)
  · obtain ⟨G, O, v1, face1, v2, word1, rfl, _⟩ := h
    rfl
  · obtain ⟨G0, O, v1, face1, v2, word1, rfl, S0, h1, h2, res, hm, q, qE⟩ := h
    refine ⟨_, (pss_one (ps_ret (pe_op op_add (pe_ix ix_list (pe_call G_columns__1 (hr.mono (by decide)) (by rfl) T.g_columns T.F_columns.kp T.b_columns .nil passE (pa_cons (pv 0) (pa_cons (pv 1) pa_nil))) (pe_un un_neg pe_int) (fun _ _ => rfl)) (pe_meth (pv 0) T.cl_Face T.m_Face_step G_Face_step (hr.mono (by decide)) T.b_Face_step .nil pass0 (pa_cons (pe_ix ix_str (pv 1) (pe_un un_neg pe_int) (fun _ _ => rfl)) pa_nil))))), ?_⟩
    have E0 := Ext.refl G0
    have hm0 : (Option.bind (m_columns__1 face1 word1) fun rs => match rs with
  | Rs.er x => some (Rs.er x)
  | Rs.ok r2 => Option.bind (getM r2 (-(1 : Int))) fun x3 =>
  Option.bind (toW word1) fun w1 =>
  Option.bind (getT w1 (-(1 : Int))) fun t1 =>
  Option.bind (m_Face_step face1 t1) fun r3 =>
  some (Rs.ok (x3 + r3))) = some res := hm
    refine gRet ?_
    refine gOp ?_
    refine gOp ?_
    refine gCall ?_
    refine gCons' ?_
    refine gV rfl ?_
    refine gCons' ?_
    refine gV rfl ?_
    refine gNil' ?_
    obtain ⟨rs2, hq2, hm3⟩ := bindS hm0
    rcases rs2 with r2 | x2
    rotate_left
    · skip
      dsimp only at hm3
      refine ⟨G0, (O), v1, face1, v2, word1, rfl, S0, h1, h2, Rs.er x2, hq2, fun _ z => (by cases z), fun y2 hy c2 d2 G4 H4 e4 S4 h8 => ?_⟩
      cases hy
      cases hm3
      exact qE _ rfl c2 d2 G4 H4 (E0.trans e4) S4 h8
    dsimp only at hm3
    refine ⟨G0, (O), v1, face1, v2, word1, rfl, S0, h1, h2, Rs.ok r2, hq2, q_ok rfl (fun v4 G3 H3 e3 S3 h7 => ?_), q_noer rfl⟩
    have h9 := R.up e3 h1
    have h10 := R.up e3 h2
    have E2 := E0.trans e3
    refine gUn ?_
    refine gC ?_
    refine ⟨_, rfl, ?_⟩
    obtain ⟨x3, hq3, hm5⟩ := bindS hm3
    refine q_ixL S3 (rM_L (K := K) h7) hq3 (fun v5 h11 => ?_)
    obtain rfl := (show v5 = (V.int x3) from h11)
    refine gMeth ?_
    refine gV rfl ?_
    obtain ⟨v6, v7, v8, hI1, h12, h13, h14⟩ := (id h9)
    obtain rfl := (show v6 = (V.int face1.apart) from h12)
    obtain ⟨a1, d3, ev1, ha1⟩ := ins_prop S3 hI1
    refine ⟨a1, d3, _, ev1, ha1, (by rfl), ?_⟩
    refine gCons' ?_
    refine gOp ?_
    refine gV rfl ?_
    obtain ⟨w1, hq4, hm6⟩ := bindS hm5
    obtain rfl := rTO_get h10 hq4
    refine gUn ?_
    refine gC ?_
    refine ⟨_, rfl, ?_⟩
    obtain ⟨t1, hq5, hm7⟩ := bindS hm6
    refine q_ixTx hq5 ?_
    refine gNil' ?_
    obtain ⟨r3, hq6, hm8⟩ := bindS hm7
    refine ⟨G3, (O), v1, face1, t1, rfl, S3, h9, r3, hq6, fun G5 H5 e5 S5 => ?_⟩
    have h15 := R.up e5 h9
    have h16 := R.up e5 h10
    have E3 := E2.trans e5
    refine ⟨_, _, rfl, rfl, ?_⟩
    cases hm8
    exact q _ rfl G5 H5 E3 S5
end
end Mr

set_option Elab.async false
set_option linter.all false
set_option maxRecDepth 100000
set_option maxHeartbeats 4000000
set_option synthInstance.maxSize 4000
set_option synthInstance.maxHeartbeats 400000
namespace Mr
open PySem PySem.Spec PyProof.Rows L2 GFr
section
variable {P : Program} {w : World} {K : PySem.W.Frag} {mg : Str → Option Value} {base : Heap}
theorem sc_stamps : FnScope ["face", "word", "letter", "column"] ["face", "word"] (defScope s_stamps) := ⟨rfl, rfl, rfl, by decide +kernel, rfl, by decide +kernel, by decide +kernel⟩
theorem ok_stamps (T : Tx K mg) : FnOk P w K mg base CX0 8 (He.fAd K ("stamps", none)) T.fd_stamps ["face", "word"] (sp_stamps K) := by
  have G_Face_ink := ok_Face_ink (P := P) (w := w) (base := base) T
  have G_columns := ok_columns (P := P) (w := w) (base := base) T
  refine T.F_stamps.ok sc_stamps (fun vs H Q E h => ?_) (fun cdv A outer s H0 vs Q E hr h => ?_)
  · obtain ⟨G, O, v1, face1, word1, rfl, _⟩ := h
    rfl
  · obtain ⟨G0, O, v1, face1, word1, rfl, S0, h1, res, hm, q⟩ := h
    refine ⟨_, PSs.nox (pss_one (ps_ret (pe_callTy (r := rTupOf K) call_tupOf (by rfl) T.z_tuple boot_tuple (pa_cons (pe_lc (own := [("letter", 2), ("column", 3)]) (g := gTup K 2 (gCons (gName 2) (gCons (gName 3) gNil))) (by rfl) sc_stamps.nd (pi_zipG (by rfl) T.z_zip (pa_cons (pv 1) (pa_cons (pe_call G_columns (hr.mono (by decide)) (by rfl) T.g_columns T.F_columns.kp T.b_columns .nil pass0 (pa_cons (pv 0) (pa_cons (pv 1) pa_nil))) pa_nil))) (blkOk_by (own := [("letter", 2), ("column", 3)]) (N := ["face", "word", "letter", "column"]) (sc := defScope s_stamps) (by decide +kernel)) (fun _ _ _ _ _ => (pg_tup rfl (pgs_cons (pg_name (i := 2) sc_stamps.nd rfl (.inl rfl)) (pgs_cons (pg_name (i := 3) sc_stamps.nd rfl (.inl rfl)) pgs_nil)))) (fun _ _ _ _ _ => pts_nil) (fun _ _ _ _ _ => (pe_tup (pa_cons (pe_meth (pv 0) T.cl_Face T.m_Face_ink G_Face_ink (hr.mono (by decide)) T.b_Face_ink .nil pass0 (pa_cons (pv 2) pa_nil)) (pa_cons (pv 3) pa_nil))))) pa_nil)))), ?_⟩
    have E0 := Ext.refl G0
    have hm0 : (Option.bind (m_columns face1 word1) fun r1 =>
  Option.bind (folM (m_stamps_c1 face1) (List.zip (sgT word1) r1) ([] : (List ((List Ink) × Int)))) fun acc1 =>
  some acc1) = some res := hm
    refine gRet ?_
    refine gCB ?_
    refine gCons' ?_
    refine gLc ?_
    refine gIZp ?_
    refine gCons' ?_
    refine gV rfl ?_
    refine gCons' ?_
    refine gCall ?_
    refine gCons' ?_
    refine gV rfl ?_
    refine gCons' ?_
    refine gV rfl ?_
    refine gNil' ?_
    obtain ⟨r1, hq1, hm1⟩ := bindS hm0
    refine ⟨G0, (O), v1, face1, word1, rfl, S0, h1, r1, hq1, fun a1 w1 G1 H1 e1 S1 h2 => ?_⟩
    have h3 := R.up e1 h1
    have E1 := E0.trans e1
    refine gNil' ?_
    obtain ⟨G2, e2, S2, h4⟩ := frz_M S1 h2
    have h5 := R.up e2 h3
    have E2 := E1.trans e2
    obtain ⟨acc1, hq3, hm3⟩ := bindS hm1
    refine lc_Zp S2 (SrR.ofTx word1) (SrR.ofL (rM_L (K := K) h4)) hq3 (fun (D : Addr) (s : (List ((List Ink) × Int))) (H : Hp) => ∃ (G : Hp) (w2 : List V), Ext G2 G ∧ Sub G ((D, HO.lst w2) :: O) H ∧ Al (rP2 K (rT K (rEn e_Ink)) rInt) G w2 s) ?_ ?_ ?_ ?_
    · intro D1 nD1
      exact ⟨G2, [], Ext.refl _, S2.newOwn nD1, True.intro⟩
    · intro D s H hI
      obtain ⟨G, k1, ie, iS, _⟩ := hI
      exact ie.trans iS.ext
    · intro D2 i1 x1 x2 acc2 s2 hb1 hr1 v7 v8 H4 H5 hI2 hS1 h15 h16
      obtain ⟨G5, w3, e5, S5, h17⟩ := hI2
      have h18 := R.up e5 h5
      have h19 := R.up e5 (rM_L (K := K) h4)
      have E5 := E2.trans e5
      have S6 := hS1 _ _ S5
      obtain rfl := (show v7 = (V.str (e_T x1)) from h15)
      obtain rfl := (show v8 = (V.int x2) from h16)
      refine ⟨rfl, ?_⟩
      have hm4 : (Option.bind (m_Face_ink face1 x1) fun r3 =>   Option.bind (appM acc2 (r3, x2)) fun acc3 =>   some acc3) = some s2 := hb1
      refine gYes ?_
      refine iteT ?_
      refine gTup' ?_
      refine gCons' ?_
      refine gMeth ?_
      refine gV rfl ?_
      obtain ⟨v9, v10, v11, hI3, h20, h21, h22⟩ := (id h18)
      obtain rfl := (show v9 = (V.int face1.apart) from h20)
      obtain ⟨a3, d2, ev2, ha2⟩ := ins_prop S6 hI3
      refine ⟨a3, d2, _, ev2, ha2, (by rfl), ?_⟩
      refine gCons' ?_
      refine gV rfl ?_
      refine gNil' ?_
      obtain ⟨r3, hq4, hm5⟩ := bindS hm4
      refine ⟨G5, ((D2, HO.lst w3) :: O), v1, face1, x1, rfl, S6, h18, r3, hq4, fun v12 G6 H6 e6 S7 h23 => ?_⟩
      have h24 := R.up e6 h18
      have h25 := R.up e6 h19
      have h26 := Al.up e6 h17
      have E6 := E5.trans e6
      refine gCons' ?_
      refine gV rfl ?_
      refine gNil' ?_
      refine q_tup2 (K := K) S7 (show R.rel (rT K (rEn e_Ink)) G6 v12 r3 from h23) (show R.rel rInt G6 (V.int x2) x2 from rfl) (fun v13 G7 H7 e7 S8 h27 => ?_)
      have h28 := R.up e7 h24
      have h29 := R.up e7 h25
      have h30 := Al.up e7 h26
      have E7 := E6.trans e7
      obtain ⟨acc3, hq5, hm6⟩ := bindS hm5
      refine q_lcEl S8 h30 (show R.rel (rP2 K (rT K (rEn e_Ink)) rInt) G7 v13 (r3, x2) from h27) hq5 (fun H8 w4 S9 h31 => ?_)
      cases hm6
      exact ⟨_, ⟨G7, w4, ((e5.trans e6).trans e7), S9, h31⟩, hr1⟩
    · intro D3 H9 hI4
      obtain ⟨G8, w5, e8, S10, h32⟩ := hI4
      have h33 := R.up e8 h5
      have E8 := E2.trans e8
      refine gNil' ?_
      refine q_tupO S10 h32 (fun v14 G9 H10 e9 S11 h34 => ?_)
      have h35 := R.up e9 h33
      have E9 := E8.trans e9
      have S12 := S11.tail
      cases hm3
      exact q v14 G9 H10 E9 S12 h34
end
end Mr

set_option Elab.async false
set_option linter.all false
set_option maxRecDepth 100000
set_option maxHeartbeats 4000000
set_option synthInstance.maxSize 4000
set_option synthInstance.maxHeartbeats 400000
namespace Mr
open PySem PySem.Spec PyProof.Rows L2 GFr
section
variable {P : Program} {w : World} {K : PySem.W.Frag} {mg : Str → Option Value} {base : Heap}
theorem ok_stamps__1 (T : Tx K mg) : FnOk P w K mg base (L2.CX P w) 8 (He.fAd K ("stamps", none)) T.fd_stamps ["face", "word"] (sp_stamps__1 K) := by
  have G_Face_ink := ok_Face_ink (P := P) (w := w) (base := base) T
  have G_columns__1 := ok_columns__1 (P := P) (w := w) (base := base) T
  refine T.F_stamps.ok sc_stamps (fun vs H Q E h => ?_) (fun cdv A outer s H0 vs Q E hr h => ?_)
  · obtain ⟨G, O, v1, face1, v2, word1, rfl, _⟩ := h
    rfl
  · obtain ⟨G0, O, v1, face1, v2, word1, rfl, S0, h1, h2, res, hm, q, qE⟩ := h
    refine ⟨_, (pss_one (ps_ret (pe_callTy (r := rTupOf K) call_tupOf (by rfl) T.z_tuple boot_tuple (pa_cons (pe_lc (own := [("letter", 2), ("column", 3)]) (g := gTup K 2 (gCons (gName 2) (gCons (gName 3) gNil))) (by rfl) sc_stamps.nd (pi_zipG (by rfl) T.z_zip (pa_cons (pv 1) (pa_cons (pe_call G_columns__1 (hr.mono (by decide)) (by rfl) T.g_columns T.F_columns.kp T.b_columns .nil passE (pa_cons (pv 0) (pa_cons (pv 1) pa_nil))) pa_nil))) (blkOk_by (own := [("letter", 2), ("column", 3)]) (N := ["face", "word", "letter", "column"]) (sc := defScope s_stamps) (by decide +kernel)) (fun _ _ _ _ _ => (pg_tup rfl (pgs_cons (pg_name (i := 2) sc_stamps.nd rfl (.inl rfl)) (pgs_cons (pg_name (i := 3) sc_stamps.nd rfl (.inl rfl)) pgs_nil)))) (fun _ _ _ _ _ => pts_nil) (fun _ _ _ _ _ => (pe_tup (pa_cons (pe_meth (pv 0) T.cl_Face T.m_Face_ink G_Face_ink (hr.mono (by decide)) T.b_Face_ink .nil pass0 (pa_cons (pv 2) pa_nil)) (pa_cons (pv 3) pa_nil))))) pa_nil)))), ?_⟩
    have E0 := Ext.refl G0
    have hm0 : (Option.bind (m_columns__1 face1 word1) fun rs => match rs with
  | Rs.er x => some (Rs.er x)
  | Rs.ok r1 => Option.bind (toW word1) fun w1 =>
  Option.bind (folM (m_stamps__1_c1 face1) (List.zip (sgT w1) r1) ([] : (List ((List Ink) × Int)))) fun acc1 =>
  some (Rs.ok acc1)) = some res := hm
    refine gRet ?_
    refine gCB ?_
    refine gCons' ?_
    refine gLc ?_
    refine gIZp ?_
    refine gCons' ?_
    refine gV rfl ?_
    refine gCons' ?_
    refine gCall ?_
    refine gCons' ?_
    refine gV rfl ?_
    refine gCons' ?_
    refine gV rfl ?_
    refine gNil' ?_
    obtain ⟨rs1, hq1, hm1⟩ := bindS hm0
    rcases rs1 with r1 | x1
    rotate_left
    · skip
      dsimp only at hm1
      refine ⟨G0, (O), v1, face1, v2, word1, rfl, S0, h1, h2, Rs.er x1, hq1, fun _ z => (by cases z), fun y1 hy c1 d1 G2 H2 e2 S2 h4 => ?_⟩
      cases hy
      cases hm1
      exact qE _ rfl c1 d1 G2 H2 (E0.trans e2) S2 h4
    dsimp only at hm1
    refine ⟨G0, (O), v1, face1, v2, word1, rfl, S0, h1, h2, Rs.ok r1, hq1, q_ok rfl (fun v3 G1 H1 e1 S1 h3 => ?_), q_noer rfl⟩
    have h5 := R.up e1 h1
    have h6 := R.up e1 h2
    have E1 := E0.trans e1
    refine gNil' ?_
    obtain ⟨w1, hq2, hm3⟩ := bindS hm1
    obtain rfl := rTO_get h6 hq2
    obtain ⟨acc1, hq4, hm5⟩ := bindS hm3
    refine lc_Zp S1 (SrR.ofTx w1) (SrR.ofL (rM_L (K := K) h3)) hq4 (fun (D : Addr) (s : (List ((List Ink) × Int))) (H : Hp) => ∃ (G : Hp) (w2 : List V), Ext G1 G ∧ Sub G ((D, HO.lst w2) :: O) H ∧ Al (rP2 K (rT K (rEn e_Ink)) rInt) G w2 s) ?_ ?_ ?_ ?_
    · intro D1 nD1
      exact ⟨G1, [], Ext.refl _, S1.newOwn nD1, True.intro⟩
    · intro D s H hI
      obtain ⟨G, k1, ie, iS, _⟩ := hI
      exact ie.trans iS.ext
    · intro D2 i1 x2 x3 acc2 s2 hb1 hr1 v9 v10 H5 H6 hI2 hS1 h18 h19
      obtain ⟨G5, w3, e5, S5, h20⟩ := hI2
      have h21 := R.up e5 h5
      have h22 := R.up e5 h6
      have h23 := R.up e5 (rM_L (K := K) h3)
      have E4 := E1.trans e5
      have S6 := hS1 _ _ S5
      obtain rfl := (show v9 = (V.str (e_T x2)) from h18)
      obtain rfl := (show v10 = (V.int x3) from h19)
      refine ⟨rfl, ?_⟩
      have hm6 : (Option.bind (m_Face_ink face1 x2) fun r3 =>   Option.bind (appM acc2 (r3, x3)) fun acc3 =>   some acc3) = some s2 := hb1
      refine gYes ?_
      refine iteT ?_
      refine gTup' ?_
      refine gCons' ?_
      refine gMeth ?_
      refine gV rfl ?_
      obtain ⟨v11, v12, v13, hI3, h24, h25, h26⟩ := (id h21)
      obtain rfl := (show v11 = (V.int face1.apart) from h24)
      obtain ⟨a2, d3, ev2, ha2⟩ := ins_prop S6 hI3
      refine ⟨a2, d3, _, ev2, ha2, (by rfl), ?_⟩
      refine gCons' ?_
      refine gV rfl ?_
      refine gNil' ?_
      obtain ⟨r3, hq5, hm7⟩ := bindS hm6
      refine ⟨G5, ((D2, HO.lst w3) :: O), v1, face1, x2, rfl, S6, h21, r3, hq5, fun v14 G6 H7 e6 S7 h27 => ?_⟩
      have h28 := R.up e6 h21
      have h29 := R.up e6 h22
      have h30 := R.up e6 h23
      have h31 := Al.up e6 h20
      have E5 := E4.trans e6
      refine gCons' ?_
      refine gV rfl ?_
      refine gNil' ?_
      refine q_tup2 (K := K) S7 (show R.rel (rT K (rEn e_Ink)) G6 v14 r3 from h27) (show R.rel rInt G6 (V.int x3) x3 from rfl) (fun v15 G7 H8 e7 S8 h32 => ?_)
      have h33 := R.up e7 h28
      have h34 := R.up e7 h29
      have h35 := R.up e7 h30
      have h36 := Al.up e7 h31
      have E6 := E5.trans e7
      obtain ⟨acc3, hq6, hm8⟩ := bindS hm7
      refine q_lcEl S8 h36 (show R.rel (rP2 K (rT K (rEn e_Ink)) rInt) G7 v15 (r3, x3) from h32) hq6 (fun H9 w4 S9 h37 => ?_)
      cases hm8
      exact ⟨_, ⟨G7, w4, ((e5.trans e6).trans e7), S9, h37⟩, hr1⟩
    · intro D3 H10 hI4
      obtain ⟨G8, w5, e8, S10, h38⟩ := hI4
      have h39 := R.up e8 h5
      have h40 := R.up e8 h6
      have E7 := E1.trans e8
      refine gNil' ?_
      refine q_tupO S10 h38 (fun v16 G9 H11 e9 S11 h41 => ?_)
      have h42 := R.up e9 h39
      have h43 := R.up e9 h40
      have E8 := E7.trans e9
      have S12 := S11.tail
      cases hm5
      exact q _ rfl v16 G9 H11 E8 S12 h41
end
end Mr

set_option Elab.async false
set_option linter.all false
set_option maxRecDepth 100000
set_option maxHeartbeats 4000000
set_option synthInstance.maxSize 4000
set_option synthInstance.maxHeartbeats 400000
namespace Mr
open PySem PySem.Spec PyProof.Rows L2 GFr
section
variable {P : Program} {w : World} {K : PySem.W.Frag} {mg : Str → Option Value} {base : Heap}
theorem sc_is_number : FnScope ["thing"] ["thing"] (defScope s_is_number) := ⟨rfl, rfl, rfl, by decide +kernel, rfl, by decide +kernel, by decide +kernel⟩
theorem ok_is_number (T : Tx K mg) : FnOk P w K mg base CX0 1 (He.fAd K ("is_number", none)) T.fd_is_number ["thing"] (sp_is_number K) := by
  obtain ⟨tk_GRID, c_GRID⟩ := T.c_GRID
  refine T.F_is_number.ok sc_is_number (fun vs H Q E h => ?_) (fun cdv A outer s H0 vs Q E hr h => ?_)
  · obtain ⟨G, O, thing1, rfl, _⟩ := h
    rfl
  · obtain ⟨G0, O, thing1, rfl, S0, res, hm, q⟩ := h
    refine ⟨_, PSs.nox (pss_one (ps_ret (pe_cut (pe_and (pe_callB (r := rIsi K) call_isi (by rfl) T.z_isinstance boot_isinstance (pa_cons (pv 0) (pa_cons (pe_bltn (v := .ty "int") (by rfl) T.z_int boot_int rfl) pa_nil))) (pe_and (pe_not (pe_callB (r := rIsi K) call_isi (by rfl) T.z_isinstance boot_isinstance (pa_cons (pv 0) (pa_cons (pe_bltn (v := .ty "bool") (by rfl) T.z_bool boot_bool rfl) pa_nil)))) (pe_one (pe_cut (pe_chain op_le op_le pe_int (pv 0) (pe_glob (v := (V.int (4 : Int))) (by rfl) c_GRID ⟨_, rfl⟩))))))))), ?_⟩
    have E0 := Ext.refl G0
    have hm0 : (some (true && ((!false) && ((decide ((0 : Int) ≤ thing1)) && (decide (thing1 ≤ (4 : Int))))))) = some res := hm
    refine gRet ?_
    refine gCE (fun (b : V) (H : Hp) => ∃ (G : Hp), Ext G0 G ∧ Sub G (O) H ∧ b = V.bl (true && ((!false) && ((decide ((0 : Int) ≤ thing1)) && (decide (thing1 ≤ (4 : Int))))))) ?_ ?_
    · skip
      refine gAndV ?_
      refine gCB ?_
      refine gCons' ?_
      refine gV rfl ?_
      refine gCons' ?_
      refine gC ?_
      refine gNil' ?_
      refine q_isi (ty_I _) (by decide +kernel : kitB "int" "int" = some true) ?_
      refine ⟨true, rfl, ?_⟩
      refine ite2 (fun c2 => ?_) (fun c2 => ?_)
      · skip
        refine gAndV ?_
        refine gNotV ?_
        refine gCB ?_
        refine gCons' ?_
        refine gV rfl ?_
        refine gCons' ?_
        refine gC ?_
        refine gNil' ?_
        refine q_isi (ty_I _) (by decide +kernel : kitB "int" "bool" = some false) ?_
        refine ⟨_, rfl, ?_⟩
        refine ⟨(!false), rfl, ?_⟩
        refine ite2 (fun c3 => ?_) (fun c3 => ?_)
        · skip
          refine gCE (fun (b : V) (H : Hp) => H = H0 ∧ b = V.bl ((decide ((0 : Int) ≤ thing1)) && (decide (thing1 ≤ (4 : Int))))) ?_ ?_
          · skip
            refine gChain ?_
            refine gC ?_
            refine gV rfl ?_
            refine ⟨_, _, rfl, rfl, ⟨(decide ((0 : Int) ≤ thing1)), rfl, ?_⟩⟩
            refine ite2 (fun c4 => ?_) (fun c4 => ?_)
            · skip
              refine gC ?_
              exact ⟨_, _, rfl, rfl, rfl, by rw [c4, Bool.true_and]⟩
            · exact ⟨rfl, by rw [ne_false c4, Bool.false_and]⟩
          · rintro b2 H2 ⟨e2, rfl⟩
            rw [e2]
            exact ⟨G0, (Ext.refl _), S0, congrArg V.bl (by rw [c2, Bool.true_and, c3, Bool.true_and])⟩
        · skip
          exact ⟨G0, (Ext.refl _), S0, congrArg V.bl (by rw [c2, Bool.true_and, ne_false c3, Bool.false_and])⟩
      · skip
        exact ⟨G0, (Ext.refl _), S0, congrArg V.bl (by rw [ne_false c2, Bool.false_and])⟩
    · intro b3 H3 hJ
      obtain ⟨G1, e3, S1, rfl⟩ := hJ
      have E1 := E0.trans e3
      cases hm0
      exact q G1 H3 E1 S1
end
end Mr

set_option Elab.async false
set_option linter.all false
set_option maxRecDepth 100000
set_option maxHeartbeats 4000000
set_option synthInstance.maxSize 4000
set_option synthInstance.maxHeartbeats 400000
namespace Mr
open PySem PySem.Spec PyProof.Rows L2 GFr
section
variable {P : Program} {w : World} {K : PySem.W.Frag} {mg : Str → Option Value} {base : Heap}
theorem sc_is_corner : FnScope ["thing"] ["thing"] (defScope s_is_corner) := ⟨rfl, rfl, rfl, by decide +kernel, rfl, by decide +kernel, by decide +kernel⟩
theorem ok_is_corner (T : Tx K mg) : FnOk P w K mg base CX0 2 (He.fAd K ("is_corner", none)) T.fd_is_corner ["thing"] (sp_is_corner K) := by
  have G_is_number := ok_is_number (P := P) (w := w) (base := base) T
  refine T.F_is_corner.ok sc_is_corner (fun vs H Q E h => ?_) (fun cdv A outer s H0 vs Q E hr h => ?_)
  · obtain ⟨G, O, v1, thing1, rfl, _⟩ := h
    rfl
  · obtain ⟨G0, O, v1, thing1, rfl, S0, h1, res, hm, q⟩ := h
    refine ⟨_, PSs.nox (pss_cons (ps_if (pt_cut (PW.pt (pw_or (pt_not (pt_val (pe_callB (r := rIsiT K) call_isiT (by rfl) T.z_isinstance boot_isinstance (pa_cons (pv 0) (pa_cons (pe_tup (pa_cons (pe_bltn (v := .ty "list") (by rfl) T.z_list boot_list rfl) (pa_cons (pe_bltn (v := .ty "tuple") (by rfl) T.z_tuple boot_tuple rfl) pa_nil))) pa_nil))))) (pw_or1 (pt_cmpR op_neI (pe_callB (r := rLenM K) call_lenM (by rfl) T.z_len boot_len (pa_cons (pv 0) pa_nil)) pe_int (nomark _)))))) (pss_one (ps_ret pe_bl)) pss_nil)
      (pss_one (ps_ret (pe_cut (pe_and (pe_call G_is_number (hr.mono (by decide)) (by rfl) T.g_is_number T.F_is_number.kp T.b_is_number .nil pass0 (pa_cons (pe_ix ix_tup (pv 0) pe_int (fun _ _ => rfl)) pa_nil)) (pe_one (pe_call G_is_number (hr.mono (by decide)) (by rfl) T.g_is_number T.F_is_number.kp T.b_is_number .nil pass0 (pa_cons (pe_ix ix_tup (pv 0) pe_int (fun _ _ => rfl)) pa_nil)))))))), ?_⟩
    have E0 := Ext.refl G0
    have hm0 : (Option.bind (if (!true) then some true else (some (!decide ((2 : Int) = (2 : Int))))) fun x1 =>
  if x1 then (some false)
  else (Option.bind (Option.bind (m_is_number thing1.1) fun r2 =>
  if r2 then (Option.bind (m_is_number thing1.2) fun r4 =>
  some r4) else some false) fun x2 =>
  some x2)) = some res := hm
    refine gS_IfS ?_
    obtain ⟨x1, hq1, hm1⟩ := bindS hm0
    refine gCT (fun (b : Bool) (H : Hp) => ∃ (G : Hp), Ext G0 G ∧ Sub G (O) H ∧ b = x1) ?_ ?_
    · skip
      refine gOr ?_
      refine gNot ?_
      refine gB ?_
      refine gCB ?_
      refine gCons' ?_
      refine gV rfl ?_
      refine gCons' ?_
      refine gTup' ?_
      refine gCons' ?_
      refine gC ?_
      refine gCons' ?_
      refine gC ?_
      refine gNil' ?_
      refine ⟨sz (by show 2 ≤ 100000; decide), fun p4 np4 => ?_⟩
      have S4 : Sub G0 (O) (upd H0 p4 (HO.tup (List.map V.ty (["list", "tuple"] : List String)))) := S0.junk np4
      refine gNil' ?_
      refine q_isiT (t := "tuple") (cs := (["list", "tuple"] : List String)) (ty_P2 (R.up S4.ext h1)) (by decide +kernel : kitL "tuple" (["list", "tuple"] : List String) = some true) ?_
      refine ⟨true, rfl, ?_⟩
      refine ite2 (fun c1 => ?_) (fun c1 => ?_)
      · skip
        have hm2 := (if_pos c1).symm.trans hq1
        cases hm2
        exact ⟨G0, (Ext.refl _), S4, rfl⟩
      · skip
        have hm3 := (if_neg c1).symm.trans hq1
        refine gTest ?_
        refine gOp ?_
        refine gCB ?_
        refine gCons' ?_
        refine gV rfl ?_
        refine gNil' ?_
        refine q_len2 S4 h1 ?_
        refine gC ?_
        refine ⟨_, _, rfl, rfl, ?_⟩
        refine ⟨(!decide ((2 : Int) = (2 : Int))), rfl, ?_⟩
        cases hm3
        exact ⟨G0, (Ext.refl _), S4, rfl⟩
    · intro b1 H1 hJ
      obtain ⟨G1, e1, S5, rfl⟩ := hJ
      have h2 := R.up e1 h1
      have E1 := E0.trans e1
      refine ite2 (fun c2 => ?_) (fun c2 => ?_)
      · skip
        have hm4 := (if_pos c2).symm.trans hm1
        refine gRet ?_
        refine gC ?_
        cases hm4
        exact q G1 H1 E1 S5
      · skip
        have hm5 := (if_neg c2).symm.trans hm1
        refine gNext ?_
        refine gE ?_
        refine gRet ?_
        obtain ⟨x2, hq6, hm10⟩ := bindS hm5
        refine gCE (fun (b : V) (H : Hp) => ∃ (G : Hp), Ext G1 G ∧ Sub G (O) H ∧ b = V.bl x2) ?_ ?_
        · skip
          refine gAndV ?_
          refine gCall ?_
          refine gCons' ?_
          refine gOp ?_
          refine gV rfl ?_
          refine gC ?_
          refine q_p2_0 S5 h2 (fun v6 h11 => ?_)
          obtain rfl := (show v6 = (V.int thing1.1) from h11)
          refine gNil' ?_
          obtain ⟨r5, hq7, hm11⟩ := bindS hq6
          refine ⟨G1, (O), thing1.1, rfl, S5, r5, hq7, fun G6 H6 e6 S10 => ?_⟩
          have h12 := R.up e6 h2
          have E6 := E1.trans e6
          refine ⟨r5, rfl, ?_⟩
          refine ite2 (fun c3 => ?_) (fun c3 => ?_)
          · skip
            have hm12 := (if_pos c3).symm.trans hm11
            refine gCall ?_
            refine gCons' ?_
            refine gOp ?_
            refine gV rfl ?_
            refine gC ?_
            refine q_p2_1 S10 h12 (fun v7 h13 => ?_)
            obtain rfl := (show v7 = (V.int thing1.2) from h13)
            refine gNil' ?_
            obtain ⟨r6, hq8, hm13⟩ := bindS hm12
            refine ⟨G6, (O), thing1.2, rfl, S10, r6, hq8, fun G7 H7 e7 S11 => ?_⟩
            have h14 := R.up e7 h12
            have E7 := E6.trans e7
            cases hm13
            exact ⟨G7, (e6.trans e7), S11, rfl⟩
          · skip
            have hm14 := (if_neg c3).symm.trans hm11
            cases hm14
            exact ⟨G6, e6, S10, rfl⟩
        · intro b2 H8 hJ
          obtain ⟨G8, e8, S12, rfl⟩ := hJ
          have h15 := R.up e8 h2
          have E8 := E1.trans e8
          cases hm10
          exact q G8 H8 E8 S12
end
end Mr

set_option Elab.async false
set_option linter.all false
set_option maxRecDepth 100000
set_option maxHeartbeats 4000000
set_option synthInstance.maxSize 4000
set_option synthInstance.maxHeartbeats 400000
namespace Mr
open PySem PySem.Spec PyProof.Rows L2 GFr
section
variable {P : Program} {w : World} {K : PySem.W.Frag} {mg : Str → Option Value} {base : Heap}
theorem sc_is_ring : FnScope ["thing", "corner", "k"] ["thing"] (defScope s_is_ring) := ⟨rfl, rfl, rfl, by decide +kernel, rfl, by decide +kernel, by decide +kernel⟩
theorem ok_is_ring (T : Tx K mg) : FnOk P w K mg base CX0 3 (He.fAd K ("is_ring", none)) T.fd_is_ring ["thing"] (sp_is_ring K) := by
  have G_is_corner := ok_is_corner (P := P) (w := w) (base := base) T
  obtain ⟨tk_LEAST_CORNERS, c_LEAST_CORNERS⟩ := T.c_LEAST_CORNERS
  obtain ⟨tk_MOST_CORNERS, c_MOST_CORNERS⟩ := T.c_MOST_CORNERS
  refine T.F_is_ring.ok sc_is_ring (fun vs H Q E h => ?_) (fun cdv A outer s H0 vs Q E hr h => ?_)
  · obtain ⟨G, O, v1, thing1, rfl, _⟩ := h
    rfl
  · obtain ⟨G0, O, v1, thing1, rfl, S0, h1, res, hm, q⟩ := h
    refine ⟨_, PSs.nox (pss_cons (ps_if (pt_cut (PW.pt (pw_or (pt_not (pt_val (pe_callB (r := rIsiT K) call_isiT (by rfl) T.z_isinstance boot_isinstance (pa_cons (pv 0) (pa_cons (pe_tup (pa_cons (pe_bltn (v := .ty "list") (by rfl) T.z_list boot_list rfl) (pa_cons (pe_bltn (v := .ty "tuple") (by rfl) T.z_tuple boot_tuple rfl) pa_nil))) pa_nil))))) (pw_or1 (pt_not (pt_cut (pt_chain op_le op_le (pe_glob (v := (V.int (3 : Int))) (by rfl) c_LEAST_CORNERS ⟨_, rfl⟩) (pe_callB (r := rLenM K) call_lenM (by rfl) T.z_len boot_len (pa_cons (pv 0) pa_nil)) (pe_glob (v := (V.int (8 : Int))) (by rfl) c_MOST_CORNERS ⟨_, rfl⟩)))))))) (pss_one (ps_ret pe_bl)) pss_nil)
      (pss_cons (ps_cut (ps_for PassesOwn.never rfl (pi_list (pv 0)) (pg_name (i := 1) sc_is_ring.nd rfl (.inl rfl))
      (pss_one (ps_if (pt_not (pt_val (pe_call G_is_corner (hr.mono (by decide)) (by rfl) T.g_is_corner T.F_is_corner.kp T.b_is_corner .nil pass0 (pa_cons (pv 1) pa_nil)))) (pss_one (ps_ret pe_bl)) pss_nil))))
      (pss_cons (ps_cut (ps_for PassesOwn.never rfl (pi_range1 (by rfl) T.z_range (pa_cons (pe_callB (r := rLenM K) call_lenM (by rfl) T.z_len boot_len (pa_cons (pv 0) pa_nil)) pa_nil)) (pg_name (i := 2) sc_is_ring.nd rfl (.inl rfl))
      (pss_one (ps_if (pt_cmpR (op_eqD hr.units) (pe_callTy (r := rTupOf K) call_tupOf (by rfl) T.z_tuple boot_tuple (pa_cons (pe_ix ix_list (pv 0) (pv 2) (fun _ _ => rfl)) pa_nil)) (pe_callTy (r := rTupOf K) call_tupOf (by rfl) T.z_tuple boot_tuple (pa_cons (pe_ix ix_list (pv 0) (pe_op op_sub (pv 2) pe_int) (fun _ _ => rfl)) pa_nil)) (nomark _)) (pss_one (ps_ret pe_bl)) pss_nil))))
      (pss_one (ps_ret pe_bl))))), ?_⟩
    have E0 := Ext.refl G0
    have hm0 : (Option.bind (if (!true) then some true else (some (!((decide ((3 : Int) ≤ (thing1.length : Int))) && (decide ((thing1.length : Int) ≤ (8 : Int))))))) fun x1 =>
  if x1 then (some false)
  else (Option.bind (forL (m_is_ring_b1) thing1 ()) fun res => match res with
  | Fl.rt r => some r
  | Fl.nx _ => Option.bind (rngM (thing1.length : Int)) fun xs1 =>
  Option.bind (forL (m_is_ring_b2 thing1) xs1 ()) fun res => match res with
  | Fl.rt r => some r
  | Fl.nx _ => some true)) = some res := hm
    refine gS_IfS ?_
    obtain ⟨x1, hq1, hm1⟩ := bindS hm0
    refine gCT (fun (b : Bool) (H : Hp) => ∃ (G : Hp), Ext G0 G ∧ Sub G (O) H ∧ b = x1) ?_ ?_
    · skip
      refine gOr ?_
      refine gNot ?_
      refine gB ?_
      refine gCB ?_
      refine gCons' ?_
      refine gV rfl ?_
      refine gCons' ?_
      refine gTup' ?_
      refine gCons' ?_
      refine gC ?_
      refine gCons' ?_
      refine gC ?_
      refine gNil' ?_
      refine ⟨sz (by show 2 ≤ 100000; decide), fun p4 np4 => ?_⟩
      have S4 : Sub G0 (O) (upd H0 p4 (HO.tup (List.map V.ty (["list", "tuple"] : List String)))) := S0.junk np4
      refine gNil' ?_
      refine q_isiT (t := "list") (cs := (["list", "tuple"] : List String)) (ty_L (rM_L (K := K) (R.up S4.ext h1))) (by decide +kernel : kitL "list" (["list", "tuple"] : List String) = some true) ?_
      refine ⟨true, rfl, ?_⟩
      refine ite2 (fun c2 => ?_) (fun c2 => ?_)
      · skip
        have hm2 := (if_pos c2).symm.trans hq1
        cases hm2
        exact ⟨G0, (Ext.refl _), S4, rfl⟩
      · skip
        have hm3 := (if_neg c2).symm.trans hq1
        refine gNot ?_
        refine gCT (fun (b : Bool) (H : Hp) => H = (upd H0 p4 (HO.tup (List.map V.ty (["list", "tuple"] : List String)))) ∧ b = ((decide ((3 : Int) ≤ (thing1.length : Int))) && (decide ((thing1.length : Int) ≤ (8 : Int))))) ?_ ?_
        · skip
          refine gTest ?_
          refine gChain ?_
          refine gC ?_
          refine gCB ?_
          refine gCons' ?_
          refine gV rfl ?_
          refine gNil' ?_
          refine q_lenL (y := V.non) S4 (rM_L (K := K) h1) ?_
          refine ⟨_, _, rfl, rfl, ⟨(decide ((3 : Int) ≤ (thing1.length : Int))), rfl, ?_⟩⟩
          refine ite2 (fun c3 => ?_) (fun c3 => ?_)
          · skip
            refine gC ?_
            exact ⟨_, _, rfl, rfl, (decide ((thing1.length : Int) ≤ (8 : Int))), rfl, rfl, by rw [c3, Bool.true_and]⟩
          · exact ⟨false, rfl, ⟨rfl, by rw [ne_false c3, Bool.false_and]⟩⟩
        · rintro b2 H2 ⟨e2, rfl⟩
          rw [e2]
          cases hm3
          exact ⟨G0, (Ext.refl _), S4, rfl⟩
    · intro b3 H3 hJ
      obtain ⟨G1, e3, S5, rfl⟩ := hJ
      have h2 := R.up e3 h1
      have E1 := E0.trans e3
      refine ite2 (fun c4 => ?_) (fun c4 => ?_)
      · skip
        have hm4 := (if_pos c4).symm.trans hm1
        refine gRet ?_
        refine gC ?_
        cases hm4
        exact q G1 H3 E1 S5
      · skip
        have hm5 := (if_neg c4).symm.trans hm1
        refine gNext ?_
        refine gE ?_
        obtain ⟨res1, hl1, hm6⟩ := bindS hm5
        refine gS_CS (fun (σ : L2.St) (H : Hp) => ∃ s : Unit, res1 = Fl.nx s ∧ ∃ (G : Hp) (y1 : Option V) (y2 : Option V), Ext G1 G ∧ Sub G (O) H ∧ σ = [some v1, y1, y2]) ?_ ?_
        · skip
          refine gFor ?_
          refine gIL ?_
          refine gV rfl ?_
          refine lp_L (r := (rP2 K rInt rInt)) S5 (rM_L (K := K) h2) hl1 (fun (s : Unit) (σ : L2.St) (H : Hp) => ∃ (G : Hp) (y1 : Option V) (y2 : Option V), Ext G1 G ∧ Sub G (O) H ∧ σ = [some v1, y1, y2]) ⟨G1, _, _, (Ext.refl _), S5, rfl⟩ ?_ ?_ ?_
          · intro s σ H hI
            obtain ⟨G, k1, k2, ie, iS, _⟩ := hI
            exact ie.trans iS.ext
          · intro i1 x2 s1 b4 hb1 hr1 v2 σ1 H4 hI1 h3
            obtain ⟨G2, y3, y4, e4, S6, rfl⟩ := hI1
            have h4 := R.up e4 h2
            have h5 := R.up e4 (rM_L (K := K) h2)
            have E2 := E1.trans e4
            have h6 := R.up e4 h3
            have hm7 : (Option.bind (m_is_corner x2) fun r2 =>   if (!r2) then (some (Bf.rt false))   else (some (Bf.go ()))) = some b4 := hb1
            refine gIfS ?_
            refine gNot ?_
            refine gB ?_
            refine gCall ?_
            refine gCons' ?_
            refine gV rfl ?_
            refine gNil' ?_
            obtain ⟨r2, hq3, hm9⟩ := bindS hm7
            refine ⟨G2, (O), v2, x2, rfl, S6, h6, r2, hq3, fun G4 H6 e6 S8 => ?_⟩
            have h10 := R.up e6 h4
            have h11 := R.up e6 h6
            have h12 := R.up e6 h5
            have E4 := E2.trans e6
            refine ⟨r2, rfl, ?_⟩
            refine ite2 (fun c5 => ?_) (fun c5 => ?_)
            · skip
              have hm10 := (if_pos c5).symm.trans hm9
              refine gRet ?_
              refine gC ?_
              cases hm10
              have hr2 := Option.some.inj (show some (Fl.rt _) = some res1 from hr1)
              subst hr2
              dsimp only at hm6
              cases hm6
              exact q G4 H6 E4 S8
            · skip
              have hm11 := (if_neg c5).symm.trans hm9
              refine gNext ?_
              cases hm11
              exact ⟨_, ⟨G4, _, _, (e4.trans e6), S8, rfl⟩, hr1⟩
          · intro s σ H h1 h2
            obtain ⟨G, k1, k2, ie, irest⟩ := h2
            exact ⟨s, h1, G, k1, k2, (ie), irest⟩
        · intro σ2 H7 hJ1
          obtain ⟨s2, hres1, hJ2⟩ := hJ1
          subst hres1
          dsimp only at hm6
          obtain ⟨G5, y5, y6, e7, S9, rfl⟩ := hJ2
          have h13 := R.up e7 h2
          have E5 := E1.trans e7
          obtain ⟨xs1, hq4, hm12⟩ := bindS hm6
          obtain ⟨res2, hl2, hm13⟩ := bindS hm12
          refine gS_CS (fun (σ : L2.St) (H : Hp) => ∃ s : Unit, res2 = Fl.nx s ∧ ∃ (G : Hp) (y7 : Option V) (y8 : Option V), Ext G5 G ∧ Sub G (O) H ∧ σ = [some v1, y7, y8]) ?_ ?_
          · skip
            refine gFor ?_
            refine gIR ?_
            refine gCons' ?_
            refine gCB ?_
            refine gCons' ?_
            refine gV rfl ?_
            refine gNil' ?_
            refine q_lenL (y := V.non) S9 (rM_L (K := K) h13) ?_
            refine gNil' ?_
            refine lp_R hq4 hl2 (fun (s : Unit) (σ : L2.St) (H : Hp) => ∃ (G : Hp) (y7 : Option V) (y8 : Option V), Ext G5 G ∧ Sub G (O) H ∧ σ = [some v1, y7, y8]) ⟨G5, _, _, (Ext.refl _), S9, rfl⟩ ?_ ?_
            · intro i2 x3 s3 b5 hb2 hr3 σ3 H8 hI2
              obtain ⟨G6, y9, y10, e8, S10, rfl⟩ := hI2
              have h15 := R.up e8 h13
              have E6 := E5.trans e8
              have hm14 : (Option.bind (getM thing1 x3) fun x4 =>   Option.bind (getM thing1 (x3 - (1 : Int))) fun x5 =>   if (decide (x4 = x5)) then (some (Bf.rt false))   else (some (Bf.go ()))) = some b5 := hb2
              refine gIfS ?_
              refine gTest ?_
              refine gOp ?_
              refine gCB ?_
              refine gCons' ?_
              refine gOp ?_
              refine gV rfl ?_
              refine gV rfl ?_
              obtain ⟨x4, hq5, hm15⟩ := bindS hm14
              refine q_ixL S10 (rM_L (K := K) h15) hq5 (fun v4 h16 => ?_)
              refine gNil' ?_
              refine q_tupP2 S10 h16 ?_
              refine gCB ?_
              refine gCons' ?_
              refine gOp ?_
              refine gV rfl ?_
              refine gOp ?_
              refine gV rfl ?_
              refine gC ?_
              refine ⟨_, _, rfl, rfl, ?_⟩
              obtain ⟨x5, hq6, hm16⟩ := bindS hm15
              refine q_ixL S10 (rM_L (K := K) h15) hq6 (fun v5 h17 => ?_)
              refine gNil' ?_
              refine q_tupP2 S10 h17 ?_
              refine q_eqD (dP2 (dInt (K := K)) (dInt (K := K))) (by show 3 ≤ 64; decide) (R.up S10.ext h16) (R.up S10.ext h17) ((okP2 okI okI) _) ((okP2 okI okI) _) ?_
              refine ⟨(decide (x4 = x5)), rfl, ?_⟩
              refine ite2 (fun c6 => ?_) (fun c6 => ?_)
              · skip
                have hm17 := (if_pos c6).symm.trans hm16
                refine gRet ?_
                refine gC ?_
                cases hm17
                have hr4 := Option.some.inj (show some (Fl.rt _) = some res2 from hr3)
                subst hr4
                dsimp only at hm13
                cases hm13
                exact q G6 H8 E6 S10
              · skip
                have hm18 := (if_neg c6).symm.trans hm16
                refine gNext ?_
                cases hm18
                exact ⟨_, ⟨G6, _, _, e8, S10, rfl⟩, hr3⟩
            · intro s σ H h1 h2
              obtain ⟨G, k3, k4, ie, irest⟩ := h2
              exact ⟨s, h1, G, k3, k4, (ie), irest⟩
          · intro σ4 H9 hJ3
            obtain ⟨s4, hres2, hJ4⟩ := hJ3
            subst hres2
            dsimp only at hm13
            obtain ⟨G7, y11, y12, e9, S11, rfl⟩ := hJ4
            have h18 := R.up e9 h13
            have E7 := E5.trans e9
            refine gRet ?_
            refine gC ?_
            cases hm13
            exact q G7 H9 E7 S11
end
end Mr

set_option Elab.async false
set_option linter.all false
set_option maxRecDepth 100000
set_option maxHeartbeats 4000000
set_option synthInstance.maxSize 4000
set_option synthInstance.maxHeartbeats 400000
namespace Mr
open PySem PySem.Spec PyProof.Rows L2 GFr
section
variable {P : Program} {w : World} {K : PySem.W.Frag} {mg : Str → Option Value} {base : Heap}
theorem sc_outline_of : FnScope ["letter", "thing", "number", "ring", "corner"] ["letter", "thing"] (defScope s_outline_of) := ⟨rfl, rfl, rfl, by decide +kernel, rfl, by decide +kernel, by decide +kernel⟩
theorem ok_outline_of (T : Tx K mg) : FnOk P w K mg base CX0 4 (He.fAd K ("outline_of", none)) T.fd_outline_of ["letter", "thing"] (sp_outline_of K) := by
  have G_is_ring := ok_is_ring (P := P) (w := w) (base := base) T
  obtain ⟨tk_MOST_RINGS, c_MOST_RINGS⟩ := T.c_MOST_RINGS
  refine T.F_outline_of.ok sc_outline_of (fun vs H Q E h => ?_) (fun cdv A outer s H0 vs Q E hr h => ?_)
  · obtain ⟨G, O, letter1, v1, thing1, rfl, _⟩ := h
    rfl
  · obtain ⟨G0, O, letter1, v1, thing1, rfl, S0, h1, res, hm, q⟩ := h
    refine ⟨_, PSs.nox (pss_cons (ps_if (pt_cut (PW.pt (pw_or (pt_not (pt_val (pe_callB (r := rIsiT K) call_isiT (by rfl) T.z_isinstance boot_isinstance (pa_cons (pv 1) (pa_cons (pe_tup (pa_cons (pe_bltn (v := .ty "list") (by rfl) T.z_list boot_list rfl) (pa_cons (pe_bltn (v := .ty "tuple") (by rfl) T.z_tuple boot_tuple rfl) pa_nil))) pa_nil))))) (pw_or1 (pt_not (pt_cut (pt_chain op_le op_le pe_int (pe_callB (r := rLenM K) call_lenM (by rfl) T.z_len boot_len (pa_cons (pv 1) pa_nil)) (pe_glob (v := (V.int (3 : Int))) (by rfl) c_MOST_RINGS ⟨_, rfl⟩)))))))) (pss_one ps_never) pss_nil)
      (pss_cons (ps_cut (ps_for PassesOwn.never rfl (pi_enumQ (by rfl) T.z_enumerate (pa_cons (pv 1) pa_nil)) (pg_tup rfl (pgs_cons (pg_name (i := 2) sc_outline_of.nd rfl (.inl rfl)) (pgs_cons (pg_name (i := 3) sc_outline_of.nd rfl (.inl rfl)) pgs_nil)))
      (pss_one (ps_if (pt_not (pt_val (pe_call G_is_ring (hr.mono (by decide)) (by rfl) T.g_is_ring T.F_is_ring.kp T.b_is_ring .nil pass0 (pa_cons (pv 3) pa_nil)))) (pss_one ps_never) pss_nil))))
      (pss_one (ps_ret (pe_callTy (r := rTupOf K) call_tupOf (by rfl) T.z_tuple boot_tuple (pa_cons (pe_lc (own := [("ring", 3)]) (g := gName 3) (by rfl) sc_outline_of.nd (pi_list (pv 1)) (blkOk_by (own := [("ring", 3)]) (N := ["letter", "thing", "number", "ring", "corner"]) (sc := defScope s_outline_of) (by decide +kernel)) (fun _ _ _ _ _ => (pg_name (i := 3) sc_outline_of.nd rfl (.inl rfl))) (fun _ _ _ _ _ => pts_nil) (fun _ _ _ _ _ => (pe_callTy (r := rTupOf K) call_tupOf (by rfl) T.z_tuple boot_tuple (pa_cons (pe_lc (own := [("corner", 4)]) (g := gName 4) (by rfl) sc_outline_of.nd (pi_listK (K := K) rfl (pv 3)) (blkOk_by (own := [("corner", 4)]) (N := ["letter", "thing", "number", "ring", "corner"]) (sc := _) (by kernel_rfl)) (fun _ _ _ _ _ => (pg_name (i := 4) sc_outline_of.nd rfl (.inl rfl))) (fun _ _ _ _ _ => pts_nil) (fun _ _ _ _ _ => (pe_callTy (r := rTupOf K) call_tupOf (by rfl) T.z_tuple boot_tuple (pa_cons (pv 4) pa_nil)))) pa_nil)))) pa_nil)))))), ?_⟩
    have E0 := Ext.refl G0
    have hm0 : (Option.bind (if (!true) then some true else (some (!((decide ((1 : Int) ≤ (thing1.length : Int))) && (decide ((thing1.length : Int) ≤ (3 : Int))))))) fun x1 =>
  if x1 then (none)
  else (Option.bind (forL (m_outline_of_b1) (enumM thing1) ()) fun res => match res with
  | Fl.rt r => some r
  | Fl.nx _ => Option.bind (folM (m_outline_of_c2) thing1 ([] : (List (List (Int × Int))))) fun acc4 =>
  some acc4)) = some res := hm
    refine gS_IfS ?_
    obtain ⟨x1, hq1, hm1⟩ := bindS hm0
    refine gCT (fun (b : Bool) (H : Hp) => ∃ (G : Hp), Ext G0 G ∧ Sub G (O) H ∧ b = x1) ?_ ?_
    · skip
      refine gOr ?_
      refine gNot ?_
      refine gB ?_
      refine gCB ?_
      refine gCons' ?_
      refine gV rfl ?_
      refine gCons' ?_
      refine gTup' ?_
      refine gCons' ?_
      refine gC ?_
      refine gCons' ?_
      refine gC ?_
      refine gNil' ?_
      refine ⟨sz (by show 2 ≤ 100000; decide), fun p4 np4 => ?_⟩
      have S4 : Sub G0 (O) (upd H0 p4 (HO.tup (List.map V.ty (["list", "tuple"] : List String)))) := S0.junk np4
      refine gNil' ?_
      refine q_isiT (t := "list") (cs := (["list", "tuple"] : List String)) (ty_L (rM_L (K := K) (R.up S4.ext h1))) (by decide +kernel : kitL "list" (["list", "tuple"] : List String) = some true) ?_
      refine ⟨true, rfl, ?_⟩
      refine ite2 (fun c2 => ?_) (fun c2 => ?_)
      · skip
        have hm2 := (if_pos c2).symm.trans hq1
        cases hm2
        exact ⟨G0, (Ext.refl _), S4, rfl⟩
      · skip
        have hm3 := (if_neg c2).symm.trans hq1
        refine gNot ?_
        refine gCT (fun (b : Bool) (H : Hp) => H = (upd H0 p4 (HO.tup (List.map V.ty (["list", "tuple"] : List String)))) ∧ b = ((decide ((1 : Int) ≤ (thing1.length : Int))) && (decide ((thing1.length : Int) ≤ (3 : Int))))) ?_ ?_
        · skip
          refine gTest ?_
          refine gChain ?_
          refine gC ?_
          refine gCB ?_
          refine gCons' ?_
          refine gV rfl ?_
          refine gNil' ?_
          refine q_lenL (y := V.non) S4 (rM_L (K := K) h1) ?_
          refine ⟨_, _, rfl, rfl, ⟨(decide ((1 : Int) ≤ (thing1.length : Int))), rfl, ?_⟩⟩
          refine ite2 (fun c3 => ?_) (fun c3 => ?_)
          · skip
            refine gC ?_
            exact ⟨_, _, rfl, rfl, (decide ((thing1.length : Int) ≤ (3 : Int))), rfl, rfl, by rw [c3, Bool.true_and]⟩
          · exact ⟨false, rfl, ⟨rfl, by rw [ne_false c3, Bool.false_and]⟩⟩
        · rintro b2 H2 ⟨e2, rfl⟩
          rw [e2]
          cases hm3
          exact ⟨G0, (Ext.refl _), S4, rfl⟩
    · intro b3 H3 hJ
      obtain ⟨G1, e3, S5, rfl⟩ := hJ
      have h2 := R.up e3 h1
      have E1 := E0.trans e3
      refine ite2 (fun c4 => ?_) (fun c4 => ?_)
      · skip
        have hm4 := (if_pos c4).symm.trans hm1
        cases hm4
      · skip
        have hm5 := (if_neg c4).symm.trans hm1
        refine gNext ?_
        refine gE ?_
        obtain ⟨res1, hl1, hm6⟩ := bindS hm5
        refine gS_CS (fun (σ : L2.St) (H : Hp) => ∃ s : Unit, res1 = Fl.nx s ∧ ∃ (G : Hp) (y1 : Option V) (y2 : Option V) (y3 : Option V), Ext G1 G ∧ Sub G (O) H ∧ σ = [some (V.str (e_T letter1)), some v1, y1, y2, y3]) ?_ ?_
        · skip
          refine gFor ?_
          refine gIE ?_
          refine gCons' ?_
          refine gV rfl ?_
          refine gNil' ?_
          refine lp_EQ (r := (rM (rP2 K rInt rInt))) S5 (rM_Q (K := K) h2) hl1 (fun (s : Unit) (σ : L2.St) (H : Hp) => ∃ (G : Hp) (y1 : Option V) (y2 : Option V) (y3 : Option V), Ext G1 G ∧ Sub G (O) H ∧ σ = [some (V.str (e_T letter1)), some v1, y1, y2, y3]) ⟨G1, _, _, _, (Ext.refl _), S5, rfl⟩ ?_ ?_ ?_
          · intro s σ H hI
            obtain ⟨G, k1, k2, k3, ie, iS, _⟩ := hI
            exact ie.trans iS.ext
          · intro i1 x2 s1 b4 hb1 hr1 v2 σ1 H4 H5 hI1 hS1 h3
            obtain ⟨G2, y4, y5, y6, e4, S6, rfl⟩ := hI1
            have h4 := R.up e4 h2
            have h5 := R.up e4 h2
            have E2 := E1.trans e4
            have S7 := hS1 _ _ S6
            generalize ((i1 : Nat) : Int) = k4 at hb1 ⊢
            have h6 := R.up e4 h3
            have hm7 : (Option.bind (m_is_ring x2) fun r2 =>   if (!r2) then (none)   else (some (Bf.go ()))) = some b4 := hb1
            refine gIfS ?_
            refine gNot ?_
            refine gB ?_
            refine gCall ?_
            refine gCons' ?_
            refine gV rfl ?_
            refine gNil' ?_
            obtain ⟨r2, hq3, hm9⟩ := bindS hm7
            refine ⟨G2, (O), v2, x2, rfl, S7, h6, r2, hq3, fun G4 H7 e6 S9 => ?_⟩
            have h10 := R.up e6 h4
            have h11 := R.up e6 h6
            have h12 := R.up e6 h5
            have E4 := E2.trans e6
            refine ⟨r2, rfl, ?_⟩
            refine ite2 (fun c5 => ?_) (fun c5 => ?_)
            · skip
              have hm10 := (if_pos c5).symm.trans hm9
              cases hm10
            · skip
              have hm11 := (if_neg c5).symm.trans hm9
              refine gNext ?_
              cases hm11
              exact ⟨_, ⟨G4, _, _, _, (e4.trans e6), S9, rfl⟩, hr1⟩
          · intro s σ H h1 h2
            obtain ⟨G, k1, k2, k3, ie, irest⟩ := h2
            exact ⟨s, h1, G, k1, k2, k3, (ie), irest⟩
        · intro σ2 H8 hJ1
          obtain ⟨s2, hres1, hJ2⟩ := hJ1
          subst hres1
          dsimp only at hm6
          obtain ⟨G5, y7, y8, y9, e7, S10, rfl⟩ := hJ2
          have h13 := R.up e7 h2
          have E5 := E1.trans e7
          refine gRet ?_
          refine gCB ?_
          refine gCons' ?_
          refine gLc ?_
          refine gIL ?_
          refine gV rfl ?_
          obtain ⟨acc4, hq6, hm15⟩ := bindS hm6
          refine lc_L (r := (rM (rP2 K rInt rInt))) S10 (rM_L (K := K) h13) hq6 (fun (D : Addr) (s : (List (List (Int × Int)))) (H : Hp) => ∃ (G : Hp) (w5 : List V), Ext G5 G ∧ Sub G ((D, HO.lst w5) :: O) H ∧ Al (rT K (rP2 K rInt rInt)) G w5 s) ?_ ?_ ?_ ?_
          · intro D4 nD2
            exact ⟨G5, [], Ext.refl _, S10.newOwn nD2, True.intro⟩
          · intro D s H hI
            obtain ⟨G, k6, ie, iS, _⟩ := hI
            exact ie.trans iS.ext
          · intro D5 i3 x4 acc5 s6 hb3 hr3 v5 H13 hI4 h30
            obtain ⟨G9, w6, e11, S15, h31⟩ := hI4
            have h32 := R.up e11 h13
            have h33 := R.up e11 (rM_L (K := K) h13)
            have E9 := E5.trans e11
            have h34 := R.up e11 h30
            refine ⟨rfl, ?_⟩
            have hm16 : (Option.bind (folM (m_outline_of_c3) x4 ([] : (List (Int × Int)))) fun acc6 =>   Option.bind (appM acc5 acc6) fun acc9 =>   some acc9) = some s6 := hb3
            refine gYes ?_
            refine iteT ?_
            refine gCB ?_
            refine gCons' ?_
            refine gLc ?_
            refine gIL ?_
            refine gV rfl ?_
            obtain ⟨acc6, hq7, hm17⟩ := bindS hm16
            refine lc_L (r := (rP2 K rInt rInt)) S15 (rM_L (K := K) h34) hq7 (fun (D : Addr) (s : (List (Int × Int))) (H : Hp) => ∃ (G : Hp) (w7 : List V), Ext G9 G ∧ Sub G ((D, HO.lst w7) :: (D5, HO.lst w6) :: O) H ∧ Al (rP2 K rInt rInt) G w7 s) ?_ ?_ ?_ ?_
            · intro D6 nD3
              exact ⟨G9, [], Ext.refl _, S15.newOwn nD3, True.intro⟩
            · intro D s H hI
              obtain ⟨G, k7, ie, iS, _⟩ := hI
              exact ie.trans iS.ext
            · intro D7 i4 x5 acc7 s8 hb4 hr4 v6 H14 hI5 h35
              obtain ⟨G10, w8, e12, S16, h36⟩ := hI5
              have h37 := R.up e12 h32
              have h38 := R.up e12 h34
              have h39 := R.up e12 h33
              have h40 := Al.up e12 h31
              have h41 := R.up e12 (rM_L (K := K) h34)
              have E10 := E9.trans e12
              have h42 := R.up e12 h35
              refine ⟨rfl, ?_⟩
              have hm18 : (Option.bind (appM acc7 x5) fun acc8 =>   some acc8) = some s8 := hb4
              refine gYes ?_
              refine iteT ?_
              refine gCB ?_
              refine gCons' ?_
              refine gV rfl ?_
              refine gNil' ?_
              refine q_tupP2 S16 h42 ?_
              obtain ⟨acc8, hq8, hm19⟩ := bindS hm18
              refine q_lcEl S16 h36 (show R.rel (rP2 K rInt rInt) G10 v6 x5 from h42) hq8 (fun H15 w9 S17 h43 => ?_)
              cases hm19
              exact ⟨_, ⟨G10, w9, e12, S17, h43⟩, hr4⟩
            · intro D8 H16 hI6
              obtain ⟨G11, w10, e13, S18, h44⟩ := hI6
              have h45 := R.up e13 h32
              have h46 := R.up e13 h34
              have h47 := R.up e13 h33
              have h48 := Al.up e13 h31
              have E11 := E9.trans e13
              refine gNil' ?_
              refine q_tupO S18 h44 (fun v7 G12 H17 e14 S19 h49 => ?_)
              have h50 := R.up e14 h45
              have h51 := R.up e14 h46
              have h52 := R.up e14 h47
              have h53 := Al.up e14 h48
              have E12 := E11.trans e14
              obtain ⟨acc9, hq9, hm20⟩ := bindS hm17
              have S20 : Sub G12 ((D5, HO.lst w6) :: (D8, HO.lst w10) :: O) H17 := S19.front 1 rfl rfl
              refine q_lcEl S20 h53 (show R.rel (rT K (rP2 K rInt rInt)) G12 v7 acc6 from h49) hq9 (fun H18 w11 S21 h54 => ?_)
              have S22 : Sub G12 ((D8, HO.lst w10) :: (D5, HO.lst w11) :: O) H18 := S21.front 1 rfl rfl
              have S23 := S22.tail
              cases hm20
              exact ⟨_, ⟨G12, w11, ((e11.trans e13).trans e14), S23, h54⟩, hr3⟩
          · intro D9 H19 hI7
            obtain ⟨G13, w12, e15, S24, h55⟩ := hI7
            have h56 := R.up e15 h13
            have E13 := E5.trans e15
            refine gNil' ?_
            refine q_tupO S24 h55 (fun v8 G14 H20 e16 S25 h57 => ?_)
            have h58 := R.up e16 h56
            have E14 := E13.trans e16
            have S26 := S25.tail
            cases hm15
            exact q v8 G14 H20 E14 S26 h57
end
end Mr

set_option Elab.async false
set_option linter.all false
set_option maxRecDepth 100000
set_option maxHeartbeats 4000000
set_option synthInstance.maxSize 4000
set_option synthInstance.maxHeartbeats 400000
namespace Mr
open PySem PySem.Spec PyProof.Rows L2 GFr
section
variable {P : Program} {w : World} {K : PySem.W.Frag} {mg : Str → Option Value} {base : Heap}
theorem sc_count_of : FnScope ["start", "stop", "x", "y", "upper", "lower", "height", "doubled"] ["start", "stop", "x", "y"] (defScope s_count_of) := ⟨rfl, rfl, rfl, by decide +kernel, rfl, by decide +kernel, by decide +kernel⟩
theorem ok_count_of (T : Tx K mg) : FnOk P w K mg base CX0 1 (He.fAd K ("count_of", none)) T.fd_count_of ["start", "stop", "x", "y"] (sp_count_of K) := by
  refine T.F_count_of.ok sc_count_of (fun vs H Q E h => ?_) (fun cdv A outer s H0 vs Q E hr h => ?_)
  · obtain ⟨G, O, v1, start1, v2, stop1, x1, y1, rfl, _⟩ := h
    rfl
  · obtain ⟨G0, O, v1, start1, v2, stop1, x1, y1, rfl, S0, h1, h2, res, hm, q⟩ := h
    refine ⟨_, PSs.nox (pss_cons (ps_asg (pe_cut (pe_ifExp (pt_cmpR op_le (pe_ix ix_tup (pv 0) pe_int (fun _ _ => rfl)) (pe_ix ix_tup (pv 1) pe_int (fun _ _ => rfl)) (nomark _)) (pe_tup (pa_cons (pv 0) (pa_cons (pv 1) pa_nil))) (pe_tup (pa_cons (pv 1) (pa_cons (pv 0) pa_nil))))) (pg_tup rfl (pgs_cons (pg_name (i := 4) sc_count_of.nd rfl (.inl rfl)) (pgs_cons (pg_name (i := 5) sc_count_of.nd rfl (.inl rfl)) pgs_nil))))
      (pss_cons (ps_if (pt_cut (PW.pt (pw_or (pt_cmpR op_gt (pe_ix ix_tup (pv 4) pe_int (fun _ _ => rfl)) (pv 3) (nomark _)) (pw_or1 (pt_cmpR op_lt (pe_ix ix_tup (pv 5) pe_int (fun _ _ => rfl)) (pe_op op_add (pv 3) pe_int) (nomark _)))))) (pss_one (ps_ret pe_int)) pss_nil)
      (pss_cons (ps_set (i := 6) sc_count_of.nd rfl (.inl rfl) (pe_op op_sub (pe_ix ix_tup (pv 5) pe_int (fun _ _ => rfl)) (pe_ix ix_tup (pv 4) pe_int (fun _ _ => rfl))))
      (pss_cons (ps_set (i := 7) sc_count_of.nd rfl (.inl rfl) (pe_op op_add (pe_op op_mul (pe_op op_mul pe_int (pe_ix ix_tup (pv 4) pe_int (fun _ _ => rfl))) (pv 6)) (pe_op op_mul (pe_op op_sub (pe_ix ix_tup (pv 5) pe_int (fun _ _ => rfl)) (pe_ix ix_tup (pv 4) pe_int (fun _ _ => rfl))) (pe_op op_sub (pe_op op_add (pe_op op_mul pe_int (pv 3)) pe_int) (pe_op op_mul pe_int (pe_ix ix_tup (pv 4) pe_int (fun _ _ => rfl)))))))
      (pss_cons (ps_if (pt_cmpR op_le (pv 7) (pe_op op_mul (pe_op op_add (pe_op op_mul pe_int (pv 2)) pe_int) (pv 6)) (nomark _)) (pss_one (ps_ret pe_int)) pss_nil)
      (pss_one (ps_ret (pe_cut (pe_ifExp (pt_cmpR op_gt (pe_ix ix_tup (pv 1) pe_int (fun _ _ => rfl)) (pe_ix ix_tup (pv 0) pe_int (fun _ _ => rfl)) (nomark _)) pe_int (pe_un un_neg pe_int)))))))))), ?_⟩
    have E0 := Ext.refl G0
    have hm0 : (Option.bind (if (decide (start1.2 ≤ stop1.2)) then (some (start1, stop1)) else (some (stop1, start1))) fun x2 =>
  if ((decide (x2.1.2 > y1)) || (decide (x2.2.2 < (y1 + (1 : Int))))) then (some (0 : Int))
  else (Option.bind (mulM ((2 : Int) * x2.1.1) (x2.2.2 - x2.1.2)) fun x3 =>
  Option.bind (mulM (x2.2.1 - x2.1.1) ((((2 : Int) * y1) + (1 : Int)) - ((2 : Int) * x2.1.2))) fun x4 =>
  Option.bind (mulM (((2 : Int) * x1) + (1 : Int)) (x2.2.2 - x2.1.2)) fun x5 =>
  if (decide ((x3 + x4) ≤ x5)) then (some (0 : Int))
  else (some (if (decide (stop1.2 > start1.2)) then (1 : Int) else (-(1 : Int)))))) = some res := hm
    refine gS_Asg ?_
    obtain ⟨x2, hq1, hm1⟩ := bindS hm0
    refine gCE (fun (v : V) (H : Hp) => ∃ (G : Hp), Ext G0 G ∧ Sub G (O) H ∧ R.rel (rP2 K (rP2 K rInt rInt) (rP2 K rInt rInt)) G v x2) ?_ ?_
    · skip
      refine gIf ?_
      refine gTest ?_
      refine gOp ?_
      refine gOp ?_
      refine gV rfl ?_
      refine gC ?_
      refine q_p2_1 S0 h1 (fun v7 h11 => ?_)
      obtain rfl := (show v7 = (V.int start1.2) from h11)
      refine gOp ?_
      refine gV rfl ?_
      refine gC ?_
      refine q_p2_1 S0 h2 (fun v8 h12 => ?_)
      obtain rfl := (show v8 = (V.int stop1.2) from h12)
      refine ⟨_, _, rfl, rfl, ?_⟩
      refine ⟨(decide (start1.2 ≤ stop1.2)), rfl, ?_⟩
      refine ite2 (fun c1 => ?_) (fun c1 => ?_)
      · skip
        have hm2 := (if_pos c1).symm.trans hq1
        refine gTup' ?_
        refine gCons' ?_
        refine gV rfl ?_
        refine gCons' ?_
        refine gV rfl ?_
        refine gNil' ?_
        refine q_tup2 (K := K) S0 (show R.rel (rP2 K rInt rInt) G0 v1 start1 from h1) (show R.rel (rP2 K rInt rInt) G0 v2 stop1 from h2) (fun v9 G3 H3 e3 S3 h13 => ?_)
        have h14 := R.up e3 h1
        have h15 := R.up e3 h2
        have E3 := E0.trans e3
        cases hm2
        exact ⟨G3, e3, S3, h13⟩
      · skip
        have hm3 := (if_neg c1).symm.trans hq1
        refine gTup' ?_
        refine gCons' ?_
        refine gV rfl ?_
        refine gCons' ?_
        refine gV rfl ?_
        refine gNil' ?_
        refine q_tup2 (K := K) S0 (show R.rel (rP2 K rInt rInt) G0 v2 stop1 from h2) (show R.rel (rP2 K rInt rInt) G0 v1 start1 from h1) (fun v10 G4 H4 e4 S4 h16 => ?_)
        have h17 := R.up e4 h1
        have h18 := R.up e4 h2
        have E4 := E0.trans e4
        cases hm3
        exact ⟨G4, e4, S4, h16⟩
    · intro v11 H5 hJ
      obtain ⟨G5, e5, S5, h19⟩ := hJ
      have h20 := R.up e5 h1
      have h21 := R.up e5 h2
      have E5 := E0.trans e5
      refine q_gt2 S5 h19 (fun v12 v13 h22 h23 => ?_)
      refine gS_IfS ?_
      refine gCT (fun (b : Bool) (H : Hp) => ∃ (G : Hp), Ext G5 G ∧ Sub G (O) H ∧ b = ((decide (x2.1.2 > y1)) || (decide (x2.2.2 < (y1 + (1 : Int)))))) ?_ ?_
      · skip
        refine gOr ?_
        refine gTest ?_
        refine gOp ?_
        refine gOp ?_
        refine gV rfl ?_
        refine gC ?_
        refine q_p2_1 S5 h22 (fun v16 h26 => ?_)
        obtain rfl := (show v16 = (V.int x2.1.2) from h26)
        refine gV rfl ?_
        refine ⟨_, _, rfl, rfl, ?_⟩
        refine ⟨(decide (x2.1.2 > y1)), rfl, ?_⟩
        refine ite2 (fun c2 => ?_) (fun c2 => ?_)
        · skip
          exact ⟨G5, (Ext.refl _), S5, (by rw [c2, Bool.true_or])⟩
        · skip
          refine gTest ?_
          refine gOp ?_
          refine gOp ?_
          refine gV rfl ?_
          refine gC ?_
          refine q_p2_1 S5 h23 (fun v17 h27 => ?_)
          obtain rfl := (show v17 = (V.int x2.2.2) from h27)
          refine gOp ?_
          refine gV rfl ?_
          refine gC ?_
          refine ⟨_, _, rfl, rfl, ?_⟩
          refine ⟨_, _, rfl, rfl, ?_⟩
          refine ⟨(decide (x2.2.2 < (y1 + (1 : Int)))), rfl, ?_⟩
          exact ⟨G5, (Ext.refl _), S5, (by rw [ne_false c2, Bool.false_or])⟩
      · intro b1 H6 hJ
        obtain ⟨G6, e6, S6, rfl⟩ := hJ
        have h28 := R.up e6 h20
        have h29 := R.up e6 h21
        have h30 := R.up e6 h22
        have h31 := R.up e6 h23
        have E6 := E5.trans e6
        refine ite2 (fun c3 => ?_) (fun c3 => ?_)
        · skip
          have hm4 := (if_pos c3).symm.trans hm1
          refine gRet ?_
          refine gC ?_
          cases hm4
          exact q G6 H6 E6 S6
        · skip
          have hm5 := (if_neg c3).symm.trans hm1
          refine gNext ?_
          refine gE ?_
          refine gS_AsgN ?_
          refine gOp ?_
          refine gOp ?_
          refine gV rfl ?_
          refine gC ?_
          refine q_p2_1 S6 h31 (fun v18 h32 => ?_)
          obtain rfl := (show v18 = (V.int x2.2.2) from h32)
          refine gOp ?_
          refine gV rfl ?_
          refine gC ?_
          refine q_p2_1 S6 h30 (fun v19 h33 => ?_)
          obtain rfl := (show v19 = (V.int x2.1.2) from h33)
          refine ⟨_, _, rfl, rfl, ?_⟩
          refine gS_AsgN ?_
          refine gOp ?_
          refine gOp ?_
          refine gOp ?_
          refine gC ?_
          refine gOp ?_
          refine gV rfl ?_
          refine gC ?_
          refine q_p2_0 S6 h30 (fun v20 h34 => ?_)
          obtain rfl := (show v20 = (V.int x2.1.1) from h34)
          refine ⟨_, _, rfl, rfl, .inl ⟨by decide, by decide⟩, ?_⟩
          refine gV rfl ?_
          obtain ⟨x3, hq2, hm6⟩ := bindS hm5
          refine q_mul hq2 ?_
          refine gOp ?_
          refine gOp ?_
          refine gOp ?_
          refine gV rfl ?_
          refine gC ?_
          refine q_p2_0 S6 h31 (fun v21 h35 => ?_)
          obtain rfl := (show v21 = (V.int x2.2.1) from h35)
          refine gOp ?_
          refine gV rfl ?_
          refine gC ?_
          refine q_p2_0 S6 h30 (fun v22 h36 => ?_)
          obtain rfl := (show v22 = (V.int x2.1.1) from h36)
          refine ⟨_, _, rfl, rfl, ?_⟩
          refine gOp ?_
          refine gOp ?_
          refine gOp ?_
          refine gC ?_
          refine gV rfl ?_
          refine ⟨_, _, rfl, rfl, .inl ⟨by decide, by decide⟩, ?_⟩
          refine gC ?_
          refine ⟨_, _, rfl, rfl, ?_⟩
          refine gOp ?_
          refine gC ?_
          refine gOp ?_
          refine gV rfl ?_
          refine gC ?_
          refine q_p2_1 S6 h30 (fun v23 h37 => ?_)
          obtain rfl := (show v23 = (V.int x2.1.2) from h37)
          refine ⟨_, _, rfl, rfl, .inl ⟨by decide, by decide⟩, ?_⟩
          refine ⟨_, _, rfl, rfl, ?_⟩
          obtain ⟨x4, hq3, hm7⟩ := bindS hm6
          refine q_mul hq3 ?_
          refine ⟨_, _, rfl, rfl, ?_⟩
          refine gS_IfS ?_
          refine gTest ?_
          refine gOp ?_
          refine gV rfl ?_
          refine gOp ?_
          refine gOp ?_
          refine gOp ?_
          refine gC ?_
          refine gV rfl ?_
          refine ⟨_, _, rfl, rfl, .inl ⟨by decide, by decide⟩, ?_⟩
          refine gC ?_
          refine ⟨_, _, rfl, rfl, ?_⟩
          refine gV rfl ?_
          obtain ⟨x5, hq4, hm8⟩ := bindS hm7
          refine q_mul hq4 ?_
          refine ⟨_, _, rfl, rfl, ?_⟩
          refine ⟨(decide ((x3 + x4) ≤ x5)), rfl, ?_⟩
          refine ite2 (fun c4 => ?_) (fun c4 => ?_)
          · skip
            have hm9 := (if_pos c4).symm.trans hm8
            refine gRet ?_
            refine gC ?_
            cases hm9
            exact q G6 H6 E6 S6
          · skip
            have hm10 := (if_neg c4).symm.trans hm8
            refine gNext ?_
            refine gE ?_
            refine gRet ?_
            refine gCE (fun (v : V) (H : Hp) => ∃ (G : Hp), Ext G6 G ∧ Sub G (O) H ∧ v = (V.int (if (decide (stop1.2 > start1.2)) then (1 : Int) else (-(1 : Int))))) ?_ ?_
            · skip
              refine gIf ?_
              refine gTest ?_
              refine gOp ?_
              refine gOp ?_
              refine gV rfl ?_
              refine gC ?_
              refine q_p2_1 S6 h29 (fun v26 h40 => ?_)
              obtain rfl := (show v26 = (V.int stop1.2) from h40)
              refine gOp ?_
              refine gV rfl ?_
              refine gC ?_
              refine q_p2_1 S6 h28 (fun v27 h41 => ?_)
              obtain rfl := (show v27 = (V.int start1.2) from h41)
              refine ⟨_, _, rfl, rfl, ?_⟩
              refine ⟨(decide (stop1.2 > start1.2)), rfl, ?_⟩
              refine ite2 (fun c5 => ?_) (fun c5 => ?_)
              · skip
                refine gC ?_
                exact ⟨G6, (Ext.refl _), S6, congrArg V.int (if_pos c5).symm⟩
              · skip
                refine gUn ?_
                refine gC ?_
                refine ⟨_, rfl, ?_⟩
                exact ⟨G6, (Ext.refl _), S6, congrArg V.int (if_neg c5).symm⟩
            · intro v28 H7 hJ
              obtain ⟨G7, e7, S7, rfl⟩ := hJ
              have h43 := R.up e7 h28
              have h44 := R.up e7 h29
              have h45 := R.up e7 h30
              have h46 := R.up e7 h31
              have E7 := E6.trans e7
              cases hm10
              exact q G7 H7 E7 S7
end
end Mr

set_option Elab.async false
set_option linter.all false
set_option maxRecDepth 100000
set_option maxHeartbeats 4000000
set_option synthInstance.maxSize 4000
set_option synthInstance.maxHeartbeats 400000
namespace Mr
open PySem PySem.Spec PyProof.Rows L2 GFr
section
variable {P : Program} {w : World} {K : PySem.W.Frag} {mg : Str → Option Value} {base : Heap}
theorem sc_winding : FnScope ["rings", "x", "y", "total", "ring", "start", "stop"] ["rings", "x", "y"] (defScope s_winding) := ⟨rfl, rfl, rfl, by decide +kernel, rfl, by decide +kernel, by decide +kernel⟩
theorem ok_winding (T : Tx K mg) : FnOk P w K mg base CX0 2 (He.fAd K ("winding", none)) T.fd_winding ["rings", "x", "y"] (sp_winding K) := by
  have G_count_of := ok_count_of (P := P) (w := w) (base := base) T
  refine T.F_winding.ok sc_winding (fun vs H Q E h => ?_) (fun cdv A outer s H0 vs Q E hr h => ?_)
  · obtain ⟨G, O, v1, rings1, x1, y1, rfl, _⟩ := h
    rfl
  · obtain ⟨G0, O, v1, rings1, x1, y1, rfl, S0, h1, res, hm, q⟩ := h
    refine ⟨_, PSs.nox (pss_cons (ps_set (i := 3) sc_winding.nd rfl (.inl rfl) pe_int)
      (pss_cons (ps_cut (ps_for PassesOwn.never rfl (pi_Q (pv 0)) (pg_name (i := 4) sc_winding.nd rfl (.inl rfl))
      (pss_one (ps_cut (ps_forEs (es_D T) hr T.F_each_side.kp (by rfl) rfl (pa_cons (pv 4) pa_nil) (pg_tup rfl (pgs_cons (pg_name (i := 5) sc_winding.nd rfl (.inl rfl)) (pgs_cons (pg_name (i := 6) sc_winding.nd rfl (.inl rfl)) pgs_nil)))
      (pss_one (ps_aug (i := 3) sc_winding.nd rfl (.inl rfl) (pe_call G_count_of (hr.mono (by decide)) (by rfl) T.g_count_of T.F_count_of.kp T.b_count_of .nil pass0 (pa_cons (pv 5) (pa_cons (pv 6) (pa_cons (pv 1) (pa_cons (pv 2) pa_nil))))) ip_add)))))))
      (pss_one (ps_ret (pv 3))))), ?_⟩
    have E0 := Ext.refl G0
    have hm0 : (Option.bind (folM (m_winding_b1 x1 y1) rings1 (0 : Int)) fun total1 =>
  some total1) = some res := hm
    refine gS_AsgN ?_
    refine gC ?_
    obtain ⟨total1, hl1, hm1⟩ := bindS hm0
    refine gS_CS (fun (σ : L2.St) (H : Hp) => ∃ (G : Hp) (y2 : Option V) (y3 : Option V) (y4 : Option V), Ext G0 G ∧ Sub G (O) H ∧ σ = [some v1, some (V.int x1), some (V.int y1), some (V.int total1), y2, y3, y4]) ?_ ?_
    · skip
      refine gFor ?_
      refine gIQ ?_
      refine gV rfl ?_
      refine lp_Q (r := (rQ K (rP2 K rInt rInt))) S0 h1 (fol_for Empty hl1) (fun (s : Int) (σ : L2.St) (H : Hp) => ∃ (G : Hp) (y2 : Option V) (y3 : Option V) (y4 : Option V), Ext G0 G ∧ Sub G (O) H ∧ σ = [some v1, some (V.int x1), some (V.int y1), some (V.int s), y2, y3, y4]) ⟨G0, _, _, _, (Ext.refl _), S0, rfl⟩ ?_ ?_ ?_
      · intro s σ H hI
        obtain ⟨G, k1, k2, k3, ie, iS, _⟩ := hI
        exact ie.trans iS.ext
      · intro i1 x2 total2 b1 hb1 hr1 v2 σ1 H1 hI1 h2
        obtain ⟨s2, hb2, hb3⟩ := goF_some hb1
        subst hb3
        obtain ⟨G1, y5, y6, y7, e1, S1, rfl⟩ := hI1
        have h3 := R.up e1 h1
        have h4 := R.up e1 h1
        have E1 := E0.trans e1
        have h5 := R.up e1 h2
        have hm2 : (Option.bind (folM (m_winding_b2 x1 y1) (sidesM x2) total2) fun total3 =>   some total3) = some s2 := hb2
        obtain ⟨total3, hl2, hm3⟩ := bindS hm2
        refine gCS (fun (σ : L2.St) (H : Hp) => ∃ (G : Hp) (y8 : Option V) (y9 : Option V), Ext G1 G ∧ Sub G (O) H ∧ σ = [some v1, some (V.int x1), some (V.int y1), some (V.int total3), some v2, y8, y9]) ?_ ?_
        · skip
          refine gFor ?_
          refine gIEs ?_
          refine gCons' ?_
          refine gV rfl ?_
          refine gNil' ?_
          refine lp_Es (r := (rP2 K rInt rInt)) rf_P2 S1 h5 (fol_for Empty hl2) (fun (s : Int) (σ : L2.St) (H : Hp) => ∃ (G : Hp) (y8 : Option V) (y9 : Option V), Ext G1 G ∧ Sub G (O) H ∧ σ = [some v1, some (V.int x1), some (V.int y1), some (V.int s), some v2, y8, y9]) ⟨G1, _, _, (Ext.refl _), S1, rfl⟩ ?_ ?_ ?_
          · intro s σ H hI
            obtain ⟨G, k4, k5, ie, iS, _⟩ := hI
            exact ie.trans iS.ext
          · intro i2 x3 x4 total4 b2 hb4 hr2 v3 v4 σ2 H2 H3 hI2 hS1 h6 h7
            obtain ⟨s4, hb5, hb6⟩ := goF_some hb4
            subst hb6
            obtain ⟨G2, y10, y11, e2, S2, rfl⟩ := hI2
            have h8 := R.up e2 h3
            have h9 := R.up e2 h5
            have h10 := R.up e2 h4
            have h11 := R.up e2 h5
            have E2 := E1.trans e2
            have S3 := hS1 _ _ S2
            have h12 := R.up e2 h6
            have h13 := R.up e2 h7
            have hm4 : (Option.bind (m_count_of x3 x4 x1 y1) fun r1 =>   some (total4 + r1)) = some s4 := hb5
            refine gAug rfl ?_
            refine gCall ?_
            refine gCons' ?_
            refine gV rfl ?_
            refine gCons' ?_
            refine gV rfl ?_
            refine gCons' ?_
            refine gV rfl ?_
            refine gCons' ?_
            refine gV rfl ?_
            refine gNil' ?_
            obtain ⟨r1, hq1, hm5⟩ := bindS hm4
            refine ⟨G2, (O), v3, x3, v4, x4, x1, y1, rfl, S3, h12, h13, r1, hq1, fun G3 H4 e3 S4 => ?_⟩
            have h14 := R.up e3 h8
            have h15 := R.up e3 h9
            have h16 := R.up e3 h12
            have h17 := R.up e3 h13
            have h18 := R.up e3 h10
            have h19 := R.up e3 h11
            have E3 := E2.trans e3
            refine ⟨_, _, rfl, rfl, ?_⟩
            cases hm5
            exact ⟨_, ⟨G3, _, _, (e2.trans e3), S4, rfl⟩, hr2⟩
          · intro s σ H h1 h2
            cases h1
            obtain ⟨G, k4, k5, ie, irest⟩ := h2
            exact ⟨G, k4, k5, (ie), irest⟩
        · intro σ3 H5 hJ1
          obtain ⟨G4, y12, y13, e4, S5, rfl⟩ := hJ1
          have h20 := R.up e4 h3
          have h21 := R.up e4 h5
          have h22 := R.up e4 h4
          have E4 := E1.trans e4
          cases hm3
          exact ⟨_, ⟨G4, _, _, _, (e1.trans e4), S5, rfl⟩, hr1⟩
      · intro s σ H h1 h2
        cases h1
        obtain ⟨G, k1, k2, k3, ie, irest⟩ := h2
        exact ⟨G, k1, k2, k3, (ie), irest⟩
    · intro σ4 H6 hJ2
      obtain ⟨G5, y14, y15, y16, e5, S6, rfl⟩ := hJ2
      have h23 := R.up e5 h1
      have E5 := E0.trans e5
      refine gRet ?_
      refine gV rfl ?_
      cases hm1
      exact q G5 H6 E5 S6
end
end Mr

set_option Elab.async false
set_option linter.all false
set_option maxRecDepth 100000
set_option maxHeartbeats 4000000
set_option synthInstance.maxSize 4000
set_option synthInstance.maxHeartbeats 400000
namespace Mr
open PySem PySem.Spec PyProof.Rows L2 GFr
section
variable {P : Program} {w : World} {K : PySem.W.Frag} {mg : Str → Option Value} {base : Heap}
theorem sc_ink_of : FnScope ["rings", "found", "y", "x"] ["rings"] (defScope s_ink_of) := ⟨rfl, rfl, rfl, by decide +kernel, rfl, by decide +kernel, by decide +kernel⟩
theorem ok_ink_of (T : Tx K mg) : FnOk P w K mg base CX0 3 (He.fAd K ("ink_of", none)) T.fd_ink_of ["rings"] (sp_ink_of K) := by
  have G_winding := ok_winding (P := P) (w := w) (base := base) T
  obtain ⟨tk_GRID, c_GRID⟩ := T.c_GRID
  refine T.F_ink_of.ok sc_ink_of (fun vs H Q E h => ?_) (fun cdv A outer s H0 vs Q E hr h => ?_)
  · obtain ⟨G, O, v1, rings1, rfl, _⟩ := h
    rfl
  · obtain ⟨G0, O, v1, rings1, rfl, S0, h1, res, hm, q⟩ := h
    refine ⟨_, PSs.nox (pss_cons (ps_set (i := 1) sc_ink_of.nd rfl (.inl rfl) (pe_lst pa_nil))
      (pss_cons (ps_cut (ps_for PassesOwn.never rfl (pi_range1 (by rfl) T.z_range (pa_cons (pe_glob (v := (V.int (4 : Int))) (by rfl) c_GRID ⟨_, rfl⟩) pa_nil)) (pg_name (i := 2) sc_ink_of.nd rfl (.inr rfl))
      (pss_one (ps_expr (pe_bm PySem.F.plainAttrs_list PySem.F.slot_list_append PySem.F.type_list_append mt_append (pv 1) (pa_cons (pe_m1 PySem.F.slot_str_join PySem.F.type_str_join (mt_joinI (K := K) rfl) (pe_strI (b := ([] : Ink)) (by decide +kernel)) (pe_lc (own := [("x", 3)]) (g := gName 3) (by rfl) sc_ink_of.nd (pi_range1 (by rfl) T.z_range (pa_cons (pe_glob (v := (V.int (4 : Int))) (by rfl) c_GRID ⟨_, rfl⟩) pa_nil)) (blkOk_by (own := [("x", 3)]) (N := ["rings", "found", "y", "x"]) (sc := defScope s_ink_of) (by decide +kernel)) (fun _ _ _ _ _ => (pg_name (i := 3) sc_ink_of.nd rfl (.inl rfl))) (fun _ _ _ _ _ => pts_nil) (fun _ _ _ _ _ => (pe_cut (pe_ifExp (pt_cmpR op_neI (pe_call G_winding (hr.mono (by decide)) (by rfl) T.g_winding T.F_winding.kp T.b_winding .nil pass0 (pa_cons (pv 0) (pa_cons (pv 3) (pa_cons (pv 2) pa_nil)))) pe_int (nomark _)) (pe_strI (b := ([true] : Ink)) (by decide +kernel)) (pe_strI (b := ([false] : Ink)) (by decide +kernel))))))) pa_nil))))))
      (pss_one (ps_ret (pe_callTy (r := rTupOf K) call_tupOf (by rfl) T.z_tuple boot_tuple (pa_cons (pv 1) pa_nil)))))), ?_⟩
    have E0 := Ext.refl G0
    have hm0 : (Option.bind (rngM (4 : Int)) fun xs1 =>
  Option.bind (folM (m_ink_of_b1 rings1) xs1 ([] : List Ink)) fun found1 =>
  some found1) = some res := hm
    refine gS_AsgN ?_
    refine gLst ?_
    refine gNil' ?_
    have h2 : Al (rEn e_Ink) G0 [] [] := True.intro
    refine q_lst S0 h2 (by show 0 ≤ 100000; decide) (fun a1 H1 w1 S1 h3 => ?_)
    obtain ⟨xs1, hq1, hm1⟩ := bindS hm0
    obtain ⟨found1, hl1, hm2⟩ := bindS hm1
    refine gS_CS (fun (σ : L2.St) (H : Hp) => ∃ (G : Hp) (w2 : List V) (y1 : Option V) (y2 : Option V), Ext G0 G ∧ Sub G ((a1, HO.lst w2) :: O) H ∧ σ = [some v1, some (V.ref a1), y1, y2] ∧ Al (rEn e_Ink) G w2 found1) ?_ ?_
    · skip
      refine gFor ?_
      refine gIR ?_
      refine gCons' ?_
      refine gC ?_
      refine gNil' ?_
      refine lp_R hq1 (fol_for Empty hl1) (fun (s : (List Ink)) (σ : L2.St) (H : Hp) => ∃ (G : Hp) (w2 : List V) (y1 : Option V) (y2 : Option V), Ext G0 G ∧ Sub G ((a1, HO.lst w2) :: O) H ∧ σ = [some v1, some (V.ref a1), y1, y2] ∧ Al (rEn e_Ink) G w2 s) ⟨G0, w1, _, _, (Ext.refl _), S1, rfl, h3⟩ ?_ ?_
      · intro i1 x1 found2 b1 hb1 hr1 σ1 H2 hI1
        obtain ⟨s2, hb2, hb3⟩ := goF_some hb1
        subst hb3
        obtain ⟨G1, w3, y3, y4, e1, S2, rfl, h5⟩ := hI1
        have h6 := R.up e1 h1
        have E1 := E0.trans e1
        have hm3 : (Option.bind (rngM (4 : Int)) fun xs2 =>   Option.bind (folM (m_ink_of_c2 rings1 x1) xs2 ([] : (List Ink))) fun acc1 =>   Option.bind (joinI acc1) fun k5 =>   Option.bind (appM found2 k5) fun found3 =>   some found3) = some s2 := hb2
        refine gDrop ?_
        refine gBM ?_
        refine gV rfl ?_
        refine ⟨.inl ⟨rfl, _, .inl (.inl S2.head)⟩, ?_⟩
        refine gCons' ?_
        refine gM1 ?_
        refine gC ?_
        refine ⟨⟨_, rfl⟩, ?_⟩
        refine gLc ?_
        refine gIR ?_
        refine gCons' ?_
        refine gC ?_
        refine gNil' ?_
        obtain ⟨xs2, hq2, hm4⟩ := bindS hm3
        obtain ⟨acc1, hq6, hm10⟩ := bindS hm4
        refine lc_R hq2 hq6 (fun (D : Addr) (s : (List Ink)) (H : Hp) => ∃ (G : Hp) (w4 : List V), Ext G1 G ∧ Sub G ((D, HO.lst w4) :: (a1, HO.lst w3) :: O) H ∧ Al (rEn e_Ink) G w4 s) ?_ ?_ ?_
        · intro D1 nD1
          exact ⟨G1, [], Ext.refl _, S2.newOwn nD1, True.intro⟩
        · intro D2 i2 x3 acc2 s4 hb4 hr2 H6 hI2
          obtain ⟨G5, w5, e5, S6, h15⟩ := hI2
          have h16 := R.up e5 h6
          have h17 := Al.up e5 h5
          have E5 := E1.trans e5
          refine ⟨rfl, ?_⟩
          have hm11 : (Option.bind (Option.bind (m_winding rings1 x3 x1) fun r3 =>   if (!decide (r3 = (0 : Int))) then (some ([true] : Ink)) else (some ([false] : Ink))) fun x4 =>   Option.bind (appM acc2 x4) fun acc3 =>   some acc3) = some s4 := hb4
          refine gYes ?_
          refine iteT ?_
          obtain ⟨x4, hq8, hm13⟩ := bindS hm11
          refine gCE (fun (v : V) (H : Hp) => ∃ (G : Hp), Ext G5 G ∧ Sub G ((D2, HO.lst w5) :: (a1, HO.lst w3) :: O) H ∧ v = (V.str (e_Ink x4))) ?_ ?_
          · skip
            refine gIf ?_
            refine gTest ?_
            refine gOp ?_
            refine gCall ?_
            refine gCons' ?_
            refine gV rfl ?_
            refine gCons' ?_
            refine gV rfl ?_
            refine gCons' ?_
            refine gV rfl ?_
            refine gNil' ?_
            obtain ⟨r4, hq9, hm14⟩ := bindS hq8
            refine ⟨G5, ((D2, HO.lst w5) :: (a1, HO.lst w3) :: O), v1, rings1, x3, x1, rfl, S6, h16, r4, hq9, fun G7 H8 e7 S8 => ?_⟩
            have h21 := R.up e7 h16
            have h22 := Al.up e7 h17
            have h23 := Al.up e7 h15
            have E7 := E5.trans e7
            refine gC ?_
            refine ⟨_, _, rfl, rfl, ?_⟩
            refine ⟨(!decide (r4 = (0 : Int))), rfl, ?_⟩
            refine ite2 (fun c2 => ?_) (fun c2 => ?_)
            · skip
              have hm15 := (if_pos c2).symm.trans hm14
              refine gC ?_
              cases hm15
              exact ⟨G7, e7, S8, rfl⟩
            · skip
              have hm16 := (if_neg c2).symm.trans hm14
              refine gC ?_
              cases hm16
              exact ⟨G7, e7, S8, rfl⟩
          · intro v5 H9 hJ
            obtain ⟨G8, e8, S9, rfl⟩ := hJ
            have h25 := R.up e8 h16
            have h26 := Al.up e8 h17
            have h27 := Al.up e8 h15
            have E8 := E5.trans e8
            obtain ⟨acc3, hq10, hm17⟩ := bindS hm13
            refine q_lcEl S9 h27 (show R.rel (rEn e_Ink) G8 (V.str (e_Ink x4)) x4 from rfl) hq10 (fun H10 w6 S10 h28 => ?_)
            cases hm17
            exact ⟨_, ⟨G8, w6, (e5.trans e8), S10, h28⟩, hr2⟩
        · intro D3 H11 hI3
          obtain ⟨G9, w7, e9, S11, h29⟩ := hI3
          have h30 := R.up e9 h6
          have h31 := Al.up e9 h5
          have E9 := E1.trans e9
          obtain ⟨G10, e10, S12, h32⟩ := frz_M S11 h29
          have h33 := R.up e10 h30
          have h34 := Al.up e10 h31
          have E10 := E9.trans e10
          obtain ⟨k5, hq11, hm18⟩ := bindS hm10
          refine q_joinI S12 h32 hq11 ?_
          refine gNil' ?_
          obtain ⟨found3, hq12, hm19⟩ := bindS hm18
          refine q_app S12 h34 (show R.rel (rEn e_Ink) G10 (V.str (e_Ink k5)) k5 from rfl) hq12 (fun H12 w8 S13 h35 => ?_)
          cases hm19
          exact ⟨_, ⟨G10, w8, _, _, ((e1.trans e9).trans e10), S13, rfl, h35⟩, hr1⟩
      · intro s σ H h1 h2
        cases h1
        obtain ⟨G, k1, k2, k3, ie, irest⟩ := h2
        exact ⟨G, k1, k2, k3, (ie), irest⟩
    · intro σ2 H13 hJ1
      obtain ⟨G11, w9, y5, y6, e11, S14, rfl, h36⟩ := hJ1
      have h37 := R.up e11 h1
      have E11 := E0.trans e11
      refine gRet ?_
      refine gCB ?_
      refine gCons' ?_
      refine gV rfl ?_
      refine gNil' ?_
      refine q_tupO S14 h36 (fun v6 G12 H14 e12 S15 h38 => ?_)
      have h39 := R.up e12 h37
      have h40 := Al.up e12 h36
      have E12 := E11.trans e12
      have S16 := S15.tail
      cases hm2
      exact q v6 G12 H14 E12 S16 h38
end
end Mr

set_option Elab.async false
set_option linter.all false
set_option maxRecDepth 100000
set_option maxHeartbeats 4000000
set_option synthInstance.maxSize 4000
set_option synthInstance.maxHeartbeats 400000
namespace Mr
open PySem PySem.Spec PyProof.Rows L2 GFr
section
variable {P : Program} {w : World} {K : PySem.W.Frag} {mg : Str → Option Value} {base : Heap}
theorem sc_leftmost : FnScope ["ink", "row", "place"] ["ink", "row"] (defScope s_leftmost) := ⟨rfl, rfl, rfl, by decide +kernel, rfl, by decide +kernel, by decide +kernel⟩
theorem ok_leftmost (T : Tx K mg) : FnOk P w K mg base CX0 1 (He.fAd K ("leftmost", none)) T.fd_leftmost ["ink", "row"] (sp_leftmost K) := by
  refine T.F_leftmost.ok sc_leftmost (fun vs H Q E h => ?_) (fun cdv A outer s H0 vs Q E hr h => ?_)
  · obtain ⟨G, O, v1, ink1, row1, rfl, _⟩ := h
    rfl
  · obtain ⟨G0, O, v1, ink1, row1, rfl, S0, h1, res, hm, q⟩ := h
    refine ⟨_, PSs.nox (pss_cons (ps_set (i := 2) sc_leftmost.nd rfl (.inl rfl) (pe_m1 PySem.F.slot_str_find PySem.F.type_str_find mt_findI (pe_ix ix_tup (pv 0) (pv 1) (fun _ _ => rfl)) (pe_strI (b := ([true] : Ink)) (by decide +kernel))))
      (pss_one (ps_ret (pe_cut (pe_ifExp (pt_cmpR op_lt (pv 2) pe_int (nomark _)) pe_non (pv 2)))))), ?_⟩
    have E0 := Ext.refl G0
    have hm0 : (Option.bind (getM ink1 row1) fun x1 =>
  Option.bind (fndM x1) fun k1 =>
  Option.bind (if (decide (k1 < (0 : Int))) then (some (none : (Option Int))) else (some (some k1))) fun x2 =>
  some x2) = some res := hm
    refine gS_AsgN ?_
    refine gM1 ?_
    refine gOp ?_
    refine gV rfl ?_
    refine gV rfl ?_
    obtain ⟨x1, hq1, hm1⟩ := bindS hm0
    refine q_ixT S0 h1 hq1 (fun v2 h2 => ?_)
    obtain rfl := (show v2 = (V.str (e_Ink x1)) from h2)
    refine ⟨⟨_, rfl⟩, ?_⟩
    refine gC ?_
    obtain ⟨k1, hq2, hm2⟩ := bindS hm1
    refine q_findI hq2 ?_
    refine gRet ?_
    obtain ⟨x2, hq3, hm3⟩ := bindS hm2
    refine gCE (fun (v : V) (H : Hp) => ∃ (G : Hp), Ext G0 G ∧ Sub G (O) H ∧ R.rel (rO rInt) G v x2) ?_ ?_
    · skip
      refine gIf ?_
      refine gTest ?_
      refine gOp ?_
      refine gV rfl ?_
      refine gC ?_
      refine ⟨_, _, rfl, rfl, ?_⟩
      refine ⟨(decide (k1 < (0 : Int))), rfl, ?_⟩
      refine ite2 (fun c1 => ?_) (fun c1 => ?_)
      · skip
        have hm4 := (if_pos c1).symm.trans hq3
        refine gC ?_
        cases hm4
        exact ⟨G0, (Ext.refl _), S0, (rO_none : R.rel (rO rInt) G0 V.non none)⟩
      · skip
        have hm5 := (if_neg c1).symm.trans hq3
        refine gV rfl ?_
        cases hm5
        exact ⟨G0, (Ext.refl _), S0, (rO_some (by intro z; cases z) (show R.rel rInt G0 (V.int k1) k1 from rfl))⟩
    · intro v3 H1 hJ
      obtain ⟨G1, e1, S1, h3⟩ := hJ
      have h4 := R.up e1 h1
      have E1 := E0.trans e1
      cases hm3
      exact q v3 G1 H1 E1 S1 h3
end
end Mr

set_option Elab.async false
set_option linter.all false
set_option maxRecDepth 100000
set_option maxHeartbeats 4000000
set_option synthInstance.maxSize 4000
set_option synthInstance.maxHeartbeats 400000
namespace Mr
open PySem PySem.Spec PyProof.Rows L2 GFr
section
variable {P : Program} {w : World} {K : PySem.W.Frag} {mg : Str → Option Value} {base : Heap}
theorem sc_rightmost : FnScope ["ink", "row", "place"] ["ink", "row"] (defScope s_rightmost) := ⟨rfl, rfl, rfl, by decide +kernel, rfl, by decide +kernel, by decide +kernel⟩
theorem ok_rightmost (T : Tx K mg) : FnOk P w K mg base CX0 1 (He.fAd K ("rightmost", none)) T.fd_rightmost ["ink", "row"] (sp_rightmost K) := by
  refine T.F_rightmost.ok sc_rightmost (fun vs H Q E h => ?_) (fun cdv A outer s H0 vs Q E hr h => ?_)
  · obtain ⟨G, O, v1, ink1, row1, rfl, _⟩ := h
    rfl
  · obtain ⟨G0, O, v1, ink1, row1, rfl, S0, h1, res, hm, q⟩ := h
    refine ⟨_, PSs.nox (pss_cons (ps_set (i := 2) sc_rightmost.nd rfl (.inl rfl) (pe_m1 PySem.F.slot_str_rfind PySem.F.type_str_rfind mt_rfindI (pe_ix ix_tup (pv 0) (pv 1) (fun _ _ => rfl)) (pe_strI (b := ([true] : Ink)) (by decide +kernel))))
      (pss_one (ps_ret (pe_cut (pe_ifExp (pt_cmpR op_lt (pv 2) pe_int (nomark _)) pe_non (pv 2)))))), ?_⟩
    have E0 := Ext.refl G0
    have hm0 : (Option.bind (getM ink1 row1) fun x1 =>
  Option.bind (rfnM x1) fun k1 =>
  Option.bind (if (decide (k1 < (0 : Int))) then (some (none : (Option Int))) else (some (some k1))) fun x2 =>
  some x2) = some res := hm
    refine gS_AsgN ?_
    refine gM1 ?_
    refine gOp ?_
    refine gV rfl ?_
    refine gV rfl ?_
    obtain ⟨x1, hq1, hm1⟩ := bindS hm0
    refine q_ixT S0 h1 hq1 (fun v2 h2 => ?_)
    obtain rfl := (show v2 = (V.str (e_Ink x1)) from h2)
    refine ⟨⟨_, rfl⟩, ?_⟩
    refine gC ?_
    obtain ⟨k1, hq2, hm2⟩ := bindS hm1
    refine q_rfindI hq2 ?_
    refine gRet ?_
    obtain ⟨x2, hq3, hm3⟩ := bindS hm2
    refine gCE (fun (v : V) (H : Hp) => ∃ (G : Hp), Ext G0 G ∧ Sub G (O) H ∧ R.rel (rO rInt) G v x2) ?_ ?_
    · skip
      refine gIf ?_
      refine gTest ?_
      refine gOp ?_
      refine gV rfl ?_
      refine gC ?_
      refine ⟨_, _, rfl, rfl, ?_⟩
      refine ⟨(decide (k1 < (0 : Int))), rfl, ?_⟩
      refine ite2 (fun c1 => ?_) (fun c1 => ?_)
      · skip
        have hm4 := (if_pos c1).symm.trans hq3
        refine gC ?_
        cases hm4
        exact ⟨G0, (Ext.refl _), S0, (rO_none : R.rel (rO rInt) G0 V.non none)⟩
      · skip
        have hm5 := (if_neg c1).symm.trans hq3
        refine gV rfl ?_
        cases hm5
        exact ⟨G0, (Ext.refl _), S0, (rO_some (by intro z; cases z) (show R.rel rInt G0 (V.int k1) k1 from rfl))⟩
    · intro v3 H1 hJ
      obtain ⟨G1, e1, S1, h3⟩ := hJ
      have h4 := R.up e1 h1
      have E1 := E0.trans e1
      cases hm3
      exact q v3 G1 H1 E1 S1 h3
end
end Mr

set_option Elab.async false
set_option linter.all false
set_option maxRecDepth 100000
set_option maxHeartbeats 4000000
set_option synthInstance.maxSize 4000
set_option synthInstance.maxHeartbeats 400000
namespace Mr
open PySem PySem.Spec PyProof.Rows L2 GFr
section
variable {P : Program} {w : World} {K : PySem.W.Frag} {mg : Str → Option Value} {base : Heap}
theorem sc_blanks : FnScope ["left", "right", "row", "gap", "last", "first"] ["left", "right", "row", "gap"] (defScope s_blanks) := ⟨rfl, rfl, rfl, by decide +kernel, rfl, by decide +kernel, by decide +kernel⟩
theorem ok_blanks (T : Tx K mg) : FnOk P w K mg base CX0 2 (He.fAd K ("blanks", none)) T.fd_blanks ["left", "right", "row", "gap"] (sp_blanks K) := by
  have G_leftmost := ok_leftmost (P := P) (w := w) (base := base) T
  have G_rightmost := ok_rightmost (P := P) (w := w) (base := base) T
  have G_step_of := ok_step_of (P := P) (w := w) (base := base) T
  refine T.F_blanks.ok sc_blanks (fun vs H Q E h => ?_) (fun cdv A outer s H0 vs Q E hr h => ?_)
  · obtain ⟨G, O, v1, left1, v2, right1, row1, gap1, rfl, _⟩ := h
    rfl
  · obtain ⟨G0, O, v1, left1, v2, right1, row1, gap1, rfl, S0, h1, h2, res, hm, q⟩ := h
    refine ⟨_, PSs.nox (pss_cons (ps_par (i := 4) (j := 5) (by rfl) sc_blanks.nd rfl rfl (by decide) rfl rfl (pa_cons (pe_call G_rightmost (hr.mono (by decide)) (by rfl) T.g_rightmost T.F_rightmost.kp T.b_rightmost .nil pass0 (pa_cons (pv 0) (pa_cons (pv 2) pa_nil))) (pa_cons (pe_call G_leftmost (hr.mono (by decide)) (by rfl) T.g_leftmost T.F_leftmost.kp T.b_leftmost .nil pass0 (pa_cons (pv 1) (pa_cons (pv 2) pa_nil))) pa_nil)) (by rfl))
      (pss_cons (ps_if (pt_cut (PW.pt (pw_or (pt_cmpR op_isNon (pv 4) pe_non (nomark _)) (pw_or1 (pt_cmpR op_isNon (pv 5) pe_non (nomark _)))))) (pss_one (ps_ret pe_non)) pss_nil)
      (pss_one (ps_ret (pe_op op_sub (pe_op op_sub (pe_op op_add (pe_op op_add (pe_call G_step_of (hr.mono (by decide)) (by rfl) T.g_step_of T.F_step_of.kp T.b_step_of .nil pass0 (pa_cons (pv 0) pa_nil)) (pv 3)) (pv 5)) (pv 4)) pe_int))))), ?_⟩
    have E0 := Ext.refl G0
    have hm0 : (Option.bind (m_rightmost left1 row1) fun r1 =>
  Option.bind (m_leftmost right1 row1) fun r2 =>
  if ((r1.isNone) || (r2.isNone)) then (some (none : (Option Int)))
  else (Option.bind (m_step_of left1) fun r3 =>
  Option.bind (r2) fun j1 =>
  Option.bind (r1) fun j2 =>
  some (some ((((r3 + gap1) + j1) - j2) - (1 : Int))))) = some res := hm
    refine gS_Par ?_
    refine gCons' ?_
    refine gCall ?_
    refine gCons' ?_
    refine gV rfl ?_
    refine gCons' ?_
    refine gV rfl ?_
    refine gNil' ?_
    obtain ⟨r1, hq1, hm1⟩ := bindS hm0
    refine ⟨G0, (O), v1, left1, row1, rfl, S0, h1, r1, hq1, fun v3 G1 H1 e1 S1 h3 => ?_⟩
    have h4 := R.up e1 h1
    have h5 := R.up e1 h2
    have E1 := E0.trans e1
    refine gCons' ?_
    refine gCall ?_
    refine gCons' ?_
    refine gV rfl ?_
    refine gCons' ?_
    refine gV rfl ?_
    refine gNil' ?_
    obtain ⟨r2, hq2, hm2⟩ := bindS hm1
    refine ⟨G1, (O), v2, right1, row1, rfl, S1, h5, r2, hq2, fun v4 G2 H2 e2 S2 h6 => ?_⟩
    have h7 := R.up e2 h4
    have h8 := R.up e2 h5
    have h9 := R.up e2 h3
    have E2 := E1.trans e2
    refine gNil' ?_
    refine ⟨_, _, rfl, ?_⟩
    refine gS_IfS ?_
    refine gCT (fun (b : Bool) (H : Hp) => ∃ (G : Hp), Ext G2 G ∧ Sub G (O) H ∧ b = ((r1.isNone) || (r2.isNone))) ?_ ?_
    · skip
      refine gOr ?_
      refine gTest ?_
      refine gOp ?_
      refine gV rfl ?_
      refine gC ?_
      refine q_isNon h9 ?_
      refine ⟨(r1.isNone), rfl, ?_⟩
      refine ite2 (fun c1 => ?_) (fun c1 => ?_)
      · skip
        exact ⟨G2, (Ext.refl _), S2, (by rw [c1, Bool.true_or])⟩
      · skip
        refine gTest ?_
        refine gOp ?_
        refine gV rfl ?_
        refine gC ?_
        refine q_isNon h6 ?_
        refine ⟨(r2.isNone), rfl, ?_⟩
        exact ⟨G2, (Ext.refl _), S2, (by rw [ne_false c1, Bool.false_or])⟩
    · intro b1 H3 hJ
      obtain ⟨G3, e3, S3, rfl⟩ := hJ
      have h10 := R.up e3 h7
      have h11 := R.up e3 h8
      have h12 := R.up e3 h9
      have h13 := R.up e3 h6
      have E3 := E2.trans e3
      refine ite2 (fun c2 => ?_) (fun c2 => ?_)
      · skip
        have hm3 := (if_pos c2).symm.trans hm2
        refine gRet ?_
        refine gC ?_
        cases hm3
        exact q V.non G3 H3 E3 S3 (rO_none : R.rel (rO rInt) G3 V.non none)
      · skip
        have hm4 := (if_neg c2).symm.trans hm2
        refine gNext ?_
        refine gE ?_
        refine gRet ?_
        refine gOp ?_
        refine gOp ?_
        refine gOp ?_
        refine gOp ?_
        refine gCall ?_
        refine gCons' ?_
        refine gV rfl ?_
        refine gNil' ?_
        obtain ⟨r3, hq3, hm5⟩ := bindS hm4
        refine ⟨G3, (O), v1, left1, rfl, S3, h10, r3, hq3, fun G4 H4 e4 S4 => ?_⟩
        have h14 := R.up e4 h10
        have h15 := R.up e4 h11
        have h16 := R.up e4 h12
        have h17 := R.up e4 h13
        have E4 := E3.trans e4
        refine gV rfl ?_
        refine ⟨_, _, rfl, rfl, ?_⟩
        refine gV rfl ?_
        obtain ⟨j1, hq4, hm6⟩ := bindS hm5
        have h18 := rO_get h17 hq4
        obtain rfl := (show v4 = (V.int j1) from h18)
        refine ⟨_, _, rfl, rfl, ?_⟩
        refine gV rfl ?_
        obtain ⟨j2, hq5, hm7⟩ := bindS hm6
        have h19 := rO_get h16 hq5
        obtain rfl := (show v3 = (V.int j2) from h19)
        refine ⟨_, _, rfl, rfl, ?_⟩
        refine gC ?_
        refine ⟨_, _, rfl, rfl, ?_⟩
        cases hm7
        exact q (V.int ((((r3 + gap1) + j1) - j2) - (1 : Int))) G4 H4 E4 S4 (rO_some (by intro z; cases z) (show R.rel rInt G4 (V.int ((((r3 + gap1) + j1) - j2) - (1 : Int))) ((((r3 + gap1) + j1) - j2) - (1 : Int)) from rfl))
end
end Mr

set_option Elab.async false
set_option linter.all false
set_option maxRecDepth 100000
set_option maxHeartbeats 4000000
set_option synthInstance.maxSize 4000
set_option synthInstance.maxHeartbeats 400000
namespace Mr
open PySem PySem.Spec PyProof.Rows L2 GFr
section
variable {P : Program} {w : World} {K : PySem.W.Frag} {mg : Str → Option Value} {base : Heap}
theorem sc_bad_count : FnScope ["outlines", "apart"] ["outlines", "apart"] (defScope s_bad_count) := ⟨rfl, rfl, rfl, by decide +kernel, rfl, by decide +kernel, by decide +kernel⟩
theorem ok_bad_count (T : Tx K mg) : FnOk P w K mg base CX0 1 (He.fAd K ("bad_count", none)) T.fd_bad_count ["outlines", "apart"] (sp_bad_count K) := by
  obtain ⟨tk_LETTERS, c_LETTERS⟩ := T.c_LETTERS
  obtain ⟨tk_MOST_APART, c_MOST_APART⟩ := T.c_MOST_APART
  refine T.F_bad_count.ok sc_bad_count (fun vs H Q E h => ?_) (fun cdv A outer s H0 vs Q E hr h => ?_)
  · obtain ⟨G, O, v1, outlines1, apart1, rfl, _⟩ := h
    rfl
  · obtain ⟨G0, O, v1, outlines1, apart1, rfl, S0, h1, res, hm, q⟩ := h
    refine ⟨_, PSs.nox (pss_cons (ps_if (pt_not (pt_val (pe_callB (r := rIsiT K) call_isiT (by rfl) T.z_isinstance boot_isinstance (pa_cons (pv 0) (pa_cons (pe_tup (pa_cons (pe_bltn (v := .ty "list") (by rfl) T.z_list boot_list rfl) (pa_cons (pe_bltn (v := .ty "tuple") (by rfl) T.z_tuple boot_tuple rfl) pa_nil))) pa_nil))))) (pss_one ps_never) pss_nil)
      (pss_cons (ps_if (pt_not (pt_cut (pt_chain op_le op_le pe_int (pe_callB (r := rLenM K) call_lenM (by rfl) T.z_len boot_len (pa_cons (pv 0) pa_nil)) (pe_callB (r := rLenS) call_lenS (by rfl) T.z_len boot_len (pa_cons (pe_glob (v := (V.str (e_T ([97, 98, 99, 100] : Wrd)))) (by rfl) c_LETTERS ⟨_, rfl⟩) pa_nil))))) (pss_one (ps_ret (pe_tup (pa_cons (pe_callB (r := rLenM K) call_lenM (by rfl) T.z_len boot_len (pa_cons (pv 0) pa_nil)) pa_nil)))) pss_nil)
      (pss_cons (ps_if (pt_cut (PW.pt (pw_or (pt_not (pt_val (pe_callB (r := rIsi K) call_isi (by rfl) T.z_isinstance boot_isinstance (pa_cons (pv 1) (pa_cons (pe_bltn (v := .ty "int") (by rfl) T.z_int boot_int rfl) pa_nil))))) (pw_or (pt_val (pe_callB (r := rIsi K) call_isi (by rfl) T.z_isinstance boot_isinstance (pa_cons (pv 1) (pa_cons (pe_bltn (v := .ty "bool") (by rfl) T.z_bool boot_bool rfl) pa_nil)))) (pw_or1 (pt_not (pt_cut (pt_chain op_le op_le pe_int (pv 1) (pe_glob (v := (V.int (2 : Int))) (by rfl) c_MOST_APART ⟨_, rfl⟩))))))))) (pss_one (ps_ret (pe_tup (pa_cons (pv 1) pa_nil)))) pss_nil)
      (pss_one (ps_ret pe_non))))), ?_⟩
    have E0 := Ext.refl G0
    have hm0 : (if (!((decide ((1 : Int) ≤ (outlines1.length : Int))) && (decide ((outlines1.length : Int) ≤ (4 : Int))))) then (some (some ([(outlines1.length : Int)] : List Int)))
  else (if (!((decide ((0 : Int) ≤ apart1)) && (decide (apart1 ≤ (2 : Int))))) then (some (some ([apart1] : List Int)))
  else (some (none : (Option (List Int)))))) = some res := hm
    refine gS_IfS ?_
    refine gNot ?_
    refine gB ?_
    refine gCB ?_
    refine gCons' ?_
    refine gV rfl ?_
    refine gCons' ?_
    refine gTup' ?_
    refine gCons' ?_
    refine gC ?_
    refine gCons' ?_
    refine gC ?_
    refine gNil' ?_
    refine ⟨sz (by show 2 ≤ 100000; decide), fun p2 np2 => ?_⟩
    have S2 : Sub G0 (O) (upd H0 p2 (HO.tup (List.map V.ty (["list", "tuple"] : List String)))) := S0.junk np2
    refine gNil' ?_
    refine q_isiT (t := "list") (cs := (["list", "tuple"] : List String)) (ty_L (rM_L (K := K) (R.up S2.ext h1))) (by decide +kernel : kitL "list" (["list", "tuple"] : List String) = some true) ?_
    refine ⟨true, rfl, ?_⟩
    refine ite2 (fun c1 => ?_) (fun c1 => ?_)
    · skip
      exact absurd c1 (by decide)
    · skip
      refine gNext ?_
      refine gE ?_
      refine gS_IfS ?_
      refine gNot ?_
      refine gCT (fun (b : Bool) (H : Hp) => H = (upd H0 p2 (HO.tup (List.map V.ty (["list", "tuple"] : List String)))) ∧ b = ((decide ((1 : Int) ≤ (outlines1.length : Int))) && (decide ((outlines1.length : Int) ≤ (4 : Int))))) ?_ ?_
      · skip
        refine gTest ?_
        refine gChain ?_
        refine gC ?_
        refine gCB ?_
        refine gCons' ?_
        refine gV rfl ?_
        refine gNil' ?_
        refine q_lenL (y := V.non) S2 (rM_L (K := K) h1) ?_
        refine ⟨_, _, rfl, rfl, ⟨(decide ((1 : Int) ≤ (outlines1.length : Int))), rfl, ?_⟩⟩
        refine ite2 (fun c2 => ?_) (fun c2 => ?_)
        · skip
          refine gCB ?_
          refine gCons' ?_
          refine gC ?_
          refine gNil' ?_
          refine q_lenT' (show lenT ([97, 98, 99, 100] : Wrd) = some 4 from rfl) ?_
          exact ⟨_, _, rfl, rfl, (decide ((outlines1.length : Int) ≤ (4 : Int))), rfl, rfl, by rw [c2, Bool.true_and]⟩
        · exact ⟨false, rfl, ⟨rfl, by rw [ne_false c2, Bool.false_and]⟩⟩
      · rintro b1 H1 ⟨e1, rfl⟩
        rw [e1]
        refine ite2 (fun c3 => ?_) (fun c3 => ?_)
        · skip
          have hm1 := (if_pos c3).symm.trans hm0
          refine gRet ?_
          refine gTup' ?_
          refine gCons' ?_
          refine gCB ?_
          refine gCons' ?_
          refine gV rfl ?_
          refine gNil' ?_
          refine q_lenL (y := V.non) S2 (rM_L (K := K) h1) ?_
          refine gNil' ?_
          have h2 : Al rInt G0 [(V.int (outlines1.length : Int))] ([(outlines1.length : Int)] : List Int) := ⟨rfl, True.intro⟩
          refine q_tupN (K := K) S2 (by show 1 ≤ 100000; decide) h2 (fun v2 G1 H2 e2 S3 h3 => ?_)
          have h4 := R.up e2 h1
          have E1 := E0.trans e2
          cases hm1
          exact q v2 G1 H2 E1 S3 (rO_some (nn_T h3) (show R.rel (rT K rInt) G1 v2 ([(outlines1.length : Int)] : List Int) from h3))
        · skip
          have hm2 := (if_neg c3).symm.trans hm0
          refine gNext ?_
          refine gE ?_
          refine gS_IfS ?_
          refine gCT (fun (b : Bool) (H : Hp) => ∃ (G : Hp), Ext G0 G ∧ Sub G (O) H ∧ b = (!((decide ((0 : Int) ≤ apart1)) && (decide (apart1 ≤ (2 : Int)))))) ?_ ?_
          · skip
            refine gOr ?_
            refine gNot ?_
            refine gB ?_
            refine gCB ?_
            refine gCons' ?_
            refine gV rfl ?_
            refine gCons' ?_
            refine gC ?_
            refine gNil' ?_
            refine q_isi (ty_I _) (by decide +kernel : kitB "int" "int" = some true) ?_
            refine ⟨true, rfl, ?_⟩
            refine ite2 (fun c5 => ?_) (fun c5 => ?_)
            · skip
              exact absurd c5 (by decide)
            · skip
              refine gOr ?_
              refine gB ?_
              refine gCB ?_
              refine gCons' ?_
              refine gV rfl ?_
              refine gCons' ?_
              refine gC ?_
              refine gNil' ?_
              refine q_isi (ty_I _) (by decide +kernel : kitB "int" "bool" = some false) ?_
              refine ⟨false, rfl, ?_⟩
              refine ite2 (fun c6 => ?_) (fun c6 => ?_)
              · skip
                exact absurd c6 (by decide)
              · skip
                refine gNot ?_
                refine gCT (fun (b : Bool) (H : Hp) => H = (upd H0 p2 (HO.tup (List.map V.ty (["list", "tuple"] : List String)))) ∧ b = ((decide ((0 : Int) ≤ apart1)) && (decide (apart1 ≤ (2 : Int))))) ?_ ?_
                · skip
                  refine gTest ?_
                  refine gChain ?_
                  refine gC ?_
                  refine gV rfl ?_
                  refine ⟨_, _, rfl, rfl, ⟨(decide ((0 : Int) ≤ apart1)), rfl, ?_⟩⟩
                  refine ite2 (fun c7 => ?_) (fun c7 => ?_)
                  · skip
                    refine gC ?_
                    exact ⟨_, _, rfl, rfl, (decide (apart1 ≤ (2 : Int))), rfl, rfl, by rw [c7, Bool.true_and]⟩
                  · exact ⟨false, rfl, ⟨rfl, by rw [ne_false c7, Bool.false_and]⟩⟩
                · rintro b3 H4 ⟨e4, rfl⟩
                  rw [e4]
                  exact ⟨G0, (Ext.refl _), S2, (by rfl)⟩
          · intro b4 H5 hJ
            obtain ⟨G2, e5, S4, rfl⟩ := hJ
            have h5 := R.up e5 h1
            have E2 := E0.trans e5
            refine ite2 (fun c8 => ?_) (fun c8 => ?_)
            · skip
              have hm3 := (if_pos c8).symm.trans hm2
              refine gRet ?_
              refine gTup' ?_
              refine gCons' ?_
              refine gV rfl ?_
              refine gNil' ?_
              have h6 : Al rInt G2 [(V.int apart1)] ([apart1] : List Int) := ⟨rfl, True.intro⟩
              refine q_tupN (K := K) S4 (by show 1 ≤ 100000; decide) h6 (fun v3 G3 H6 e6 S5 h7 => ?_)
              have h8 := R.up e6 h5
              have E3 := E2.trans e6
              cases hm3
              exact q v3 G3 H6 E3 S5 (rO_some (nn_T h7) (show R.rel (rT K rInt) G3 v3 ([apart1] : List Int) from h7))
            · skip
              have hm4 := (if_neg c8).symm.trans hm2
              refine gNext ?_
              refine gE ?_
              refine gRet ?_
              refine gC ?_
              cases hm4
              exact q V.non G2 H5 E2 S4 (rO_none : R.rel (rO (rT K rInt)) G2 V.non none)
end
end Mr

set_option Elab.async false
set_option linter.all false
set_option maxRecDepth 100000
set_option maxHeartbeats 4000000
set_option synthInstance.maxSize 4000
set_option synthInstance.maxHeartbeats 400000
namespace Mr
open PySem PySem.Spec PyProof.Rows L2 GFr
section
variable {P : Program} {w : World} {K : PySem.W.Frag} {mg : Str → Option Value} {base : Heap}
theorem sc_row_that_bars : FnScope ["left", "right", "gap", "apart", "row", "between"] ["left", "right", "gap", "apart"] (defScope s_row_that_bars) := ⟨rfl, rfl, rfl, by decide +kernel, rfl, by decide +kernel, by decide +kernel⟩
theorem ok_row_that_bars (T : Tx K mg) : FnOk P w K mg base CX0 3 (He.fAd K ("row_that_bars", none)) T.fd_row_that_bars ["left", "right", "gap", "apart"] (sp_row_that_bars K) := by
  have G_blanks := ok_blanks (P := P) (w := w) (base := base) T
  obtain ⟨tk_GRID, c_GRID⟩ := T.c_GRID
  refine T.F_row_that_bars.ok sc_row_that_bars (fun vs H Q E h => ?_) (fun cdv A outer s H0 vs Q E hr h => ?_)
  · obtain ⟨G, O, v1, left1, v2, right1, gap1, apart1, rfl, _⟩ := h
    rfl
  · obtain ⟨G0, O, v1, left1, v2, right1, gap1, apart1, rfl, S0, h1, h2, res, hm, q⟩ := h
    refine ⟨_, PSs.nox (pss_cons (ps_cut (ps_for PassesOwn.never rfl (pi_range1 (by rfl) T.z_range (pa_cons (pe_glob (v := (V.int (4 : Int))) (by rfl) c_GRID ⟨_, rfl⟩) pa_nil)) (pg_name (i := 4) sc_row_that_bars.nd rfl (.inl rfl))
      (pss_cons (ps_set (i := 5) sc_row_that_bars.nd rfl (.inl rfl) (pe_call G_blanks (hr.mono (by decide)) (by rfl) T.g_blanks T.F_blanks.kp T.b_blanks .nil pass0 (pa_cons (pv 0) (pa_cons (pv 1) (pa_cons (pv 4) (pa_cons (pv 2) pa_nil))))))
      (pss_one (ps_if (pt_cut (PW.pt (pw_and (pt_cmpR op_isNotNon (pv 5) pe_non (nomark _)) (pw_and1 (pt_cmpR op_lt (pv 5) (pv 3) (nomark _)))))) (pss_one (ps_ret (pv 4))) pss_nil)))))
      (pss_one (ps_ret pe_non))), ?_⟩
    have E0 := Ext.refl G0
    have hm0 : (Option.bind (rngM (4 : Int)) fun xs1 =>
  Option.bind (forL (m_row_that_bars_b1 left1 right1 gap1 apart1) xs1 ()) fun res => match res with
  | Fl.rt r => some r
  | Fl.nx _ => some (none : (Option Int))) = some res := hm
    obtain ⟨xs1, hq1, hm1⟩ := bindS hm0
    obtain ⟨res1, hl1, hm2⟩ := bindS hm1
    refine gS_CS (fun (σ : L2.St) (H : Hp) => ∃ s : Unit, res1 = Fl.nx s ∧ ∃ (G : Hp) (y1 : Option V) (y2 : Option V), Ext G0 G ∧ Sub G (O) H ∧ σ = [some v1, some v2, some (V.int gap1), some (V.int apart1), y1, y2]) ?_ ?_
    · skip
      refine gFor ?_
      refine gIR ?_
      refine gCons' ?_
      refine gC ?_
      refine gNil' ?_
      refine lp_R hq1 hl1 (fun (s : Unit) (σ : L2.St) (H : Hp) => ∃ (G : Hp) (y1 : Option V) (y2 : Option V), Ext G0 G ∧ Sub G (O) H ∧ σ = [some v1, some v2, some (V.int gap1), some (V.int apart1), y1, y2]) ⟨G0, _, _, (Ext.refl _), S0, rfl⟩ ?_ ?_
      · intro i1 x1 s1 b1 hb1 hr1 σ1 H1 hI1
        obtain ⟨G1, y3, y4, e1, S1, rfl⟩ := hI1
        have h4 := R.up e1 h1
        have h5 := R.up e1 h2
        have E1 := E0.trans e1
        have hm3 : (Option.bind (m_blanks left1 right1 x1 gap1) fun r1 =>   Option.bind (if (!r1.isNone) then (Option.bind (r1) fun j1 =>   some (decide (j1 < apart1))) else some false) fun x2 =>   if x2 then (some (Bf.rt (some x1)))   else (some (Bf.go ()))) = some b1 := hb1
        refine gS_AsgN ?_
        refine gCall ?_
        refine gCons' ?_
        refine gV rfl ?_
        refine gCons' ?_
        refine gV rfl ?_
        refine gCons' ?_
        refine gV rfl ?_
        refine gCons' ?_
        refine gV rfl ?_
        refine gNil' ?_
        obtain ⟨r1, hq2, hm4⟩ := bindS hm3
        refine ⟨G1, (O), v1, left1, v2, right1, x1, gap1, rfl, S1, h4, h5, r1, hq2, fun v4 G2 H2 e2 S2 h6 => ?_⟩
        have h7 := R.up e2 h4
        have h8 := R.up e2 h5
        have E2 := E1.trans e2
        refine gIfS ?_
        obtain ⟨x2, hq4, hm6⟩ := bindS hm4
        refine gCT (fun (b : Bool) (H : Hp) => ∃ (G : Hp), Ext G2 G ∧ Sub G (O) H ∧ b = x2) ?_ ?_
        · skip
          refine gAnd ?_
          refine gTest ?_
          refine gOp ?_
          refine gV rfl ?_
          refine gC ?_
          refine q_isNotNon h6 ?_
          refine ⟨(!r1.isNone), rfl, ?_⟩
          refine ite2 (fun c1 => ?_) (fun c1 => ?_)
          · skip
            have hm7 := (if_pos c1).symm.trans hq4
            refine gTest ?_
            refine gOp ?_
            refine gV rfl ?_
            refine gV rfl ?_
            obtain ⟨j2, hq5, hm8⟩ := bindS hm7
            have h10 := rO_get h6 hq5
            obtain rfl := (show v4 = (V.int j2) from h10)
            refine ⟨_, _, rfl, rfl, ?_⟩
            refine ⟨(decide (j2 < apart1)), rfl, ?_⟩
            cases hm8
            exact ⟨G2, (Ext.refl _), S2, rfl⟩
          · skip
            have hm9 := (if_neg c1).symm.trans hq4
            cases hm9
            exact ⟨G2, (Ext.refl _), S2, rfl⟩
        · intro b2 H3 hJ
          obtain ⟨G3, e3, S3, rfl⟩ := hJ
          have h11 := R.up e3 h7
          have h12 := R.up e3 h8
          have h13 := R.up e3 h6
          have E3 := E2.trans e3
          refine ite2 (fun c2 => ?_) (fun c2 => ?_)
          · skip
            have hm10 := (if_pos c2).symm.trans hm6
            refine gRet ?_
            refine gV rfl ?_
            cases hm10
            have hr2 := Option.some.inj (show some (Fl.rt _) = some res1 from hr1)
            subst hr2
            dsimp only at hm2
            cases hm2
            exact q (V.int x1) G3 H3 E3 S3 (rO_some (by intro z; cases z) (show R.rel rInt G3 (V.int x1) x1 from rfl))
          · skip
            have hm11 := (if_neg c2).symm.trans hm6
            refine gNext ?_
            cases hm11
            exact ⟨_, ⟨G3, _, _, ((e1.trans e2).trans e3), S3, rfl⟩, hr1⟩
      · intro s σ H h1 h2
        obtain ⟨G, k1, k2, ie, irest⟩ := h2
        exact ⟨s, h1, G, k1, k2, (ie), irest⟩
    · intro σ2 H4 hJ1
      obtain ⟨s2, hres1, hJ2⟩ := hJ1
      subst hres1
      dsimp only at hm2
      obtain ⟨G4, y5, y6, e4, S4, rfl⟩ := hJ2
      have h14 := R.up e4 h1
      have h15 := R.up e4 h2
      have E4 := E0.trans e4
      refine gRet ?_
      refine gC ?_
      cases hm2
      exact q V.non G4 H4 E4 S4 (rO_none : R.rel (rO rInt) G4 V.non none)
end
end Mr

set_option Elab.async false
set_option linter.all false
set_option maxRecDepth 100000
set_option maxHeartbeats 4000000
set_option synthInstance.maxSize 4000
set_option synthInstance.maxHeartbeats 400000
namespace Mr
open PySem PySem.Spec PyProof.Rows L2 GFr
section
variable {P : Program} {w : World} {K : PySem.W.Frag} {mg : Str → Option Value} {base : Heap}
theorem sc_Face_gap_and_bar : FnScope ["self", "left", "right", "gap", "bar", "row"] ["self", "left", "right"] (defScope s_Face_gap_and_bar) := ⟨rfl, rfl, rfl, by decide +kernel, rfl, by decide +kernel, by decide +kernel⟩
theorem ok_Face_gap_and_bar (T : Tx K mg) : FnOk P w K mg base CX0 4 (He.fAd K ("Face", some "gap_and_bar")) T.fd_Face_gap_and_bar ["self", "left", "right"] (sp_Face_gap_and_bar K) := by
  have G_row_that_bars := ok_row_that_bars (P := P) (w := w) (base := base) T
  refine T.F_Face_gap_and_bar.ok sc_Face_gap_and_bar (fun vs H Q E h => ?_) (fun cdv A outer s H0 vs Q E hr h => ?_)
  · obtain ⟨G, O, v1, self1, v2, left1, v3, right1, rfl, _⟩ := h
    rfl
  · obtain ⟨G0, O, v1, self1, v2, left1, v3, right1, rfl, S0, h1, h2, h3, res, hm, q⟩ := h
    refine ⟨_, PSs.nox (pss_cons (ps_asg (pe_tup (pa_cons pe_int (pa_cons pe_non pa_nil))) (pg_tup rfl (pgs_cons (pg_name (i := 3) sc_Face_gap_and_bar.nd rfl (.inl rfl)) (pgs_cons (pg_name (i := 4) sc_Face_gap_and_bar.nd rfl (.inl rfl)) pgs_nil))))
      (pss_cons (ps_cut (ps_whileW PassesOwn.never (ptw_cmp op_isNotNon (pew_named (i := 5) sc_Face_gap_and_bar.nd rfl (.inl rfl) (pew_of (pe_call G_row_that_bars (hr.mono (by decide)) (by rfl) T.g_row_that_bars T.F_row_that_bars.kp T.b_row_that_bars .nil pass0 (pa_cons (pv 1) (pa_cons (pv 2) (pa_cons (pv 3) (pa_cons (pe_fld (pv 0) rfl) pa_nil))))))) pe_non (nomark _))
      (pss_one (ps_par (i := 3) (j := 4) (by rfl) sc_Face_gap_and_bar.nd rfl rfl (by decide) rfl rfl (pa_cons (pe_op op_add (pv 3) pe_int) (pa_cons (pv 5) pa_nil)) (by rfl))) pss_nil))
      (pss_one (ps_ret (pe_tup (pa_cons (pv 3) (pa_cons (pv 4) pa_nil))))))), ?_⟩
    have E0 := Ext.refl G0
    have hm0 : (Option.bind (whL (m_Face_gap_and_bar_b1 self1 left1 right1) 1000000 ((0 : Int), (none : (Option Int)))) fun res => match res with
  | Fl.rt r => some r
  | Fl.nx (gap1, bar1) => some (gap1, bar1)) = some res := hm
    refine gS_Asg ?_
    refine gTup' ?_
    refine gCons' ?_
    refine gC ?_
    refine gCons' ?_
    refine gC ?_
    refine gNil' ?_
    refine q_tup2 (K := K) S0 (show R.rel rInt G0 (V.int (0 : Int)) (0 : Int) from rfl) (show R.rel rNon G0 V.non () from rfl) (fun v4 G1 H1 e1 S1 h4 => ?_)
    have h5 := R.up e1 h1
    have h6 := R.up e1 h2
    have h7 := R.up e1 h3
    have E1 := E0.trans e1
    refine q_gt2 S1 h4 (fun v5 v6 h8 h9 => ?_)
    obtain rfl := (show v5 = (V.int (0 : Int)) from h8)
    obtain rfl := (show v6 = V.non from h9)
    obtain ⟨res1, hl1, hm1⟩ := bindS hm0
    refine gS_CS (fun (σ : L2.St) (H : Hp) => ∃ s : Int × (Option Int), res1 = Fl.nx s ∧ ∃ (G : Hp) (v7 : V) (y1 : Option V), Ext G1 G ∧ Sub G (O) H ∧ σ = [some v1, some v2, some v3, some (V.int s.1), some v7, y1] ∧ R.rel (rO rInt) G v7 s.2) ?_ ?_
    · skip
      refine lp_WW hl1 (fun (s : Int × (Option Int)) (σ : L2.St) (H : Hp) => ∃ (G : Hp) (v7 : V) (y1 : Option V), Ext G1 G ∧ Sub G (O) H ∧ σ = [some v1, some v2, some v3, some (V.int s.1), some v7, y1] ∧ R.rel (rO rInt) G v7 s.2) ⟨G1, V.non, _, (Ext.refl _), S1, rfl, (rO_none : R.rel (rO rInt) G1 V.non none)⟩ ?_
      intro i1 s1 b1 hb1 hr1 σ1 H2 hI1
      obtain ⟨gap2, bar2⟩ := s1
      obtain ⟨G2, v8, y2, e2, S2, rfl, h10⟩ := hI1
      have h11 := R.up e2 h5
      have h12 := R.up e2 h6
      have h13 := R.up e2 h7
      have E2 := E1.trans e2
      have hm2 : (Option.bind (m_row_that_bars left1 right1 gap2 self1) fun r1 =>   if (!r1.isNone) then (some (Bf.go ((gap2 + (1 : Int)), r1)))   else (some (Bf.bk (gap2, bar2)))) = some b1 := hb1
      refine gWCmp ?_
      refine gWNm ?_
      refine gCall ?_
      refine gCons' ?_
      refine gV rfl ?_
      refine gCons' ?_
      refine gV rfl ?_
      refine gCons' ?_
      refine gV rfl ?_
      refine gCons' ?_
      refine gFld ?_
      refine gV rfl ?_
      obtain ⟨fs1, v9, hI2, hl2, h14⟩ := (id h11)
      obtain rfl := (show v9 = (V.int self1) from h14)
      obtain ⟨a1, d1, ev1, ha1⟩ := ins_prop S2 hI2
      refine ⟨a1, _, d1, _, _, ev1, ha1, T.cl_Face, T.n_Face_apart, hl2, ?_⟩
      refine gNil' ?_
      obtain ⟨r1, hq1, hm3⟩ := bindS hm2
      refine ⟨G2, (O), v2, left1, v3, right1, gap2, self1, rfl, S2, h12, h13, r1, hq1, fun v10 G3 H3 e3 S3 h15 => ?_⟩
      have h16 := R.up e3 h11
      have h17 := R.up e3 h12
      have h18 := R.up e3 h13
      have h19 := R.up e3 h10
      have E3 := E2.trans e3
      refine gC ?_
      refine q_isNotNon h15 ?_
      refine ⟨(!r1.isNone), rfl, ?_⟩
      refine ite2 (fun c1 => ?_) (fun c1 => ?_)
      · skip
        have hm4 := (if_pos c1).symm.trans hm3
        refine whGo ?_
        refine gPar ?_
        refine gCons' ?_
        refine gOp ?_
        refine gV rfl ?_
        refine gC ?_
        refine ⟨_, _, rfl, rfl, ?_⟩
        refine gCons' ?_
        refine gV rfl ?_
        refine gNil' ?_
        refine ⟨_, _, rfl, ?_⟩
        cases hm4
        exact ⟨((gap2 + (1 : Int)), r1), ⟨G3, v10, _, (e2.trans e3), S3, rfl, h15⟩, hr1⟩
      · skip
        have hm5 := (if_neg c1).symm.trans hm3
        cases hm5
        exact ⟨_, (Option.some.inj hr1).symm, ⟨G3, v8, _, (e2.trans e3), S3, rfl, h19⟩⟩
    · intro σ2 H4 hJ1
      obtain ⟨s2, hres1, hJ2⟩ := hJ1
      subst hres1
      obtain ⟨gap1, bar1⟩ := s2
      dsimp only at hm1
      obtain ⟨G4, v11, y3, e4, S4, rfl, h20⟩ := hJ2
      have h21 := R.up e4 h5
      have h22 := R.up e4 h6
      have h23 := R.up e4 h7
      have E4 := E1.trans e4
      refine gRet ?_
      refine gTup' ?_
      refine gCons' ?_
      refine gV rfl ?_
      refine gCons' ?_
      refine gV rfl ?_
      refine gNil' ?_
      refine q_tup2 (K := K) S4 (show R.rel rInt G4 (V.int gap1) gap1 from rfl) (show R.rel (rO rInt) G4 v11 bar1 from h20) (fun v12 G5 H5 e5 S5 h24 => ?_)
      have h25 := R.up e5 h21
      have h26 := R.up e5 h22
      have h27 := R.up e5 h23
      have h28 := R.up e5 h20
      have E5 := E4.trans e5
      cases hm1
      exact q v12 G5 H5 E5 S5 h24
end
end Mr

set_option Elab.async false
set_option linter.all false
set_option maxRecDepth 100000
set_option maxHeartbeats 4000000
set_option synthInstance.maxSize 4000
set_option synthInstance.maxHeartbeats 400000
namespace Mr
open PySem PySem.Spec PyProof.Rows L2 GFr
section
variable {P : Program} {w : World} {K : PySem.W.Frag} {mg : Str → Option Value} {base : Heap}
theorem sc_Face___init__ : FnScope ["self", "outlines", "apart", "wrong", "found", "letter", "thing", "ink", "left", "before", "right", "behind"] ["self", "outlines", "apart"] (defScope s_Face___init__) := ⟨rfl, rfl, rfl, by decide +kernel, rfl, by decide +kernel, by decide +kernel⟩
theorem ok_Face___init__ (T : Tx K mg) : FnOk P w K mg base CX0 5 (He.ma K (He.ga K "Face") "__init__") T.fd_Face___init__ ["self", "outlines", "apart"] (sp_Face___init__ K) := by
  have G_Face_gap_and_bar := ok_Face_gap_and_bar (P := P) (w := w) (base := base) T
  have G_bad_count := ok_bad_count (P := P) (w := w) (base := base) T
  have G_ink_of := ok_ink_of (P := P) (w := w) (base := base) T
  have G_outline_of := ok_outline_of (P := P) (w := w) (base := base) T
  have G_step_of := ok_step_of (P := P) (w := w) (base := base) T
  obtain ⟨tk_LETTERS, c_LETTERS⟩ := T.c_LETTERS
  refine T.F_Face___init__.ok sc_Face___init__ (fun vs H Q E h => ?_) (fun cdv A outer s H0 vs Q E hr h => ?_)
  · obtain ⟨G, O, p1, d1, v1, outlines1, apart1, rfl, _⟩ := h
    rfl
  · obtain ⟨G0, O, p1, d1, v1, outlines1, apart1, rfl, S0, h1, res, hm, q⟩ := h
    refine ⟨_, PSs.nox (pss_cons (ps_set (i := 3) sc_Face___init__.nd rfl (.inl rfl) (pe_call G_bad_count (hr.mono (by decide)) (by rfl) T.g_bad_count T.F_bad_count.kp T.b_bad_count .nil pass0 (pa_cons (pv 1) (pa_cons (pv 2) pa_nil))))
      (pss_cons (ps_if (pt_cmpR op_isNotNon (pv 3) pe_non (nomark _)) (pss_one ps_never) pss_nil)
      (pss_cons (ps_set (i := 4) sc_Face___init__.nd rfl (.inl rfl) (pe_lst pa_nil))
      (pss_cons (ps_cut (ps_for PassesOwn.never rfl (pi_zipG (by rfl) T.z_zip (pa_cons (pe_glob (v := (V.str (e_T ([97, 98, 99, 100] : Wrd)))) (by rfl) c_LETTERS ⟨_, rfl⟩) (pa_cons (pv 1) pa_nil))) (pg_tup rfl (pgs_cons (pg_name (i := 5) sc_Face___init__.nd rfl (.inl rfl)) (pgs_cons (pg_name (i := 6) sc_Face___init__.nd rfl (.inl rfl)) pgs_nil)))
      (pss_cons (ps_set (i := 7) sc_Face___init__.nd rfl (.inl rfl) (pe_call G_ink_of (hr.mono (by decide)) (by rfl) T.g_ink_of T.F_ink_of.kp T.b_ink_of .nil pass0 (pa_cons (pe_call G_outline_of (hr.mono (by decide)) (by rfl) T.g_outline_of T.F_outline_of.kp T.b_outline_of .nil pass0 (pa_cons (pv 5) (pa_cons (pv 6) pa_nil))) pa_nil)))
      (pss_cons (ps_if (pt_cmpR op_eqI (pe_call G_step_of (hr.mono (by decide)) (by rfl) T.g_step_of T.F_step_of.kp T.b_step_of .nil pass0 (pa_cons (pv 7) pa_nil)) pe_int (nomark _)) (pss_one ps_never) pss_nil)
      (pss_one (ps_expr (pe_bm PySem.F.plainAttrs_list PySem.F.slot_list_append PySem.F.type_list_append mt_append (pv 4) (pa_cons (pv 7) pa_nil))))))))
      (pss_cons (ps_fld (pv 0) (pv 2) rfl)
      (pss_cons (ps_fld (pv 0) (pe_callTy (r := rTupOf K) call_tupOf (by rfl) T.z_tuple boot_tuple (pa_cons (pv 4) pa_nil)) rfl)
      (pss_cons (ps_fld (pv 0) pe_dnewK rfl)
      (pss_one (ps_cut (ps_for PassesOwn.never rfl (pi_zipG (by rfl) T.z_zip (pa_cons (pe_glob (v := (V.str (e_T ([97, 98, 99, 100] : Wrd)))) (by rfl) c_LETTERS ⟨_, rfl⟩) (pa_cons (pv 4) pa_nil))) (pg_tup rfl (pgs_cons (pg_name (i := 8) sc_Face___init__.nd rfl (.inl rfl)) (pgs_cons (pg_name (i := 9) sc_Face___init__.nd rfl (.inl rfl)) pgs_nil)))
      (pss_one (ps_cut (ps_for PassesOwn.never rfl (pi_zipG (by rfl) T.z_zip (pa_cons (pe_glob (v := (V.str (e_T ([97, 98, 99, 100] : Wrd)))) (by rfl) c_LETTERS ⟨_, rfl⟩) (pa_cons (pv 4) pa_nil))) (pg_tup rfl (pgs_cons (pg_name (i := 10) sc_Face___init__.nd rfl (.inl rfl)) (pgs_cons (pg_name (i := 11) sc_Face___init__.nd rfl (.inl rfl)) pgs_nil)))
      (pss_one (ps_dput (Nat.lt_trans (Nat.add_lt_add_left (show 1 < 64 by decide) _) hr.units) (pe_fld (pv 0) rfl) (pe_op op_addT (pv 8) (pv 10)) (pe_meth (pv 0) T.cl_Face T.m_Face_gap_and_bar G_Face_gap_and_bar (hr.mono (by decide)) T.b_Face_gap_and_bar .nil pass0 (pa_cons (pv 9) (pa_cons (pv 11) pa_nil))) rfl))))))))))))))), ?_⟩
    have E0 := Ext.refl G0
    have hm0 : (Option.bind (m_bad_count outlines1 apart1) fun r1 =>
  if (!r1.isNone) then (none)
  else (Option.bind (forL (m_Face___init___b1) (List.zip (sgT ([97, 98, 99, 100] : Wrd)) outlines1) ([] : List (List Ink))) fun res => match res with
  | Fl.rt r => some r
  | Fl.nx found1 => Option.bind (folM (m_Face___init___b2 apart1 found1) (List.zip (sgT ([97, 98, 99, 100] : Wrd)) found1) ([] : (List (Wrd × (Int × (Option Int)))))) fun d_gaps_and_bars1 =>
  some (Face.mk apart1 found1 d_gaps_and_bars1))) = some res := hm
    refine gS_AsgN ?_
    refine gCall ?_
    refine gCons' ?_
    refine gV rfl ?_
    refine gCons' ?_
    refine gV rfl ?_
    refine gNil' ?_
    obtain ⟨r1, hq1, hm1⟩ := bindS hm0
    refine ⟨G0, ((p1, HO.ins (He.ga K "Face") d1 []) :: O), v1, outlines1, apart1, rfl, S0, h1, r1, hq1, fun v2 G1 H1 e1 S1 h2 => ?_⟩
    have h3 := R.up e1 h1
    have E1 := E0.trans e1
    refine gS_IfS ?_
    refine gTest ?_
    refine gOp ?_
    refine gV rfl ?_
    refine gC ?_
    refine q_isNotNon h2 ?_
    refine ⟨(!r1.isNone), rfl, ?_⟩
    refine ite2 (fun c1 => ?_) (fun c1 => ?_)
    · skip
      have hm2 := (if_pos c1).symm.trans hm1
      cases hm2
    · skip
      have hm3 := (if_neg c1).symm.trans hm1
      refine gNext ?_
      refine gE ?_
      refine gS_AsgN ?_
      refine gLst ?_
      refine gNil' ?_
      have h4 : Al (rT K (rEn e_Ink)) G1 [] [] := True.intro
      refine q_lst S1 h4 (by show 0 ≤ 100000; decide) (fun a1 H2 w1 S2 h5 => ?_)
      obtain ⟨res1, hl1, hm4⟩ := bindS hm3
      refine gS_CS (fun (σ : L2.St) (H : Hp) => ∃ s : (List (List Ink)), res1 = Fl.nx s ∧ ∃ (G : Hp) (w2 : List V) (y1 : Option V) (y2 : Option V) (y3 : Option V) (y4 : Option V) (y5 : Option V) (y6 : Option V) (y7 : Option V), Ext G1 G ∧ Sub G ((a1, HO.lst w2) :: (p1, HO.ins (He.ga K "Face") d1 []) :: O) H ∧ σ = [some (V.ref p1), some v1, some (V.int apart1), some v2, some (V.ref a1), y1, y2, y3, y4, y5, y6, y7] ∧ Al (rT K (rEn e_Ink)) G w2 s) ?_ ?_
      · skip
        refine gFor ?_
        refine gIZp ?_
        refine gCons' ?_
        refine gC ?_
        refine gCons' ?_
        refine gV rfl ?_
        refine gNil' ?_
        refine lp_Zp S2 (SrR.ofTx ([97, 98, 99, 100] : Wrd)) (SrR.ofL (rM_L (K := K) h3)) hl1 (fun (s : (List (List Ink))) (σ : L2.St) (H : Hp) => ∃ (G : Hp) (w2 : List V) (y1 : Option V) (y2 : Option V) (y3 : Option V) (y4 : Option V) (y5 : Option V) (y6 : Option V) (y7 : Option V), Ext G1 G ∧ Sub G ((a1, HO.lst w2) :: (p1, HO.ins (He.ga K "Face") d1 []) :: O) H ∧ σ = [some (V.ref p1), some v1, some (V.int apart1), some v2, some (V.ref a1), y1, y2, y3, y4, y5, y6, y7] ∧ Al (rT K (rEn e_Ink)) G w2 s) ⟨G1, w1, _, _, _, _, _, _, _, (Ext.refl _), S2, rfl, h5⟩ ?_ ?_ ?_
        · intro s σ H hI
          obtain ⟨G, k1, k2, k3, k4, k5, k6, k7, k8, ie, iS, _⟩ := hI
          exact ie.trans iS.ext
        · intro i1 x1 x2 found2 b1 hb1 hr1 v3 v4 σ1 H3 H4 hI1 hS1 h6 h7
          obtain ⟨G2, w3, y8, y9, y10, y11, y12, y13, y14, e2, S3, rfl, h8⟩ := hI1
          have h9 := R.up e2 h3
          have h10 := R.up e2 h2
          have h11 := R.up e2 (rM_L (K := K) h3)
          have E2 := E1.trans e2
          have S4 := hS1 _ _ S3
          obtain rfl := (show v3 = (V.str (e_T x1)) from h6)
          have h12 := R.up e2 h7
          have hm5 : (Option.bind (m_outline_of x1 x2) fun r2 =>   Option.bind (m_ink_of r2) fun r3 =>   Option.bind (m_step_of r3) fun r4 =>   if (decide (r4 = (0 : Int))) then (none)   else (Option.bind (appM found2 r3) fun found3 =>   some (Bf.go found3))) = some b1 := hb1
          refine gS_AsgN ?_
          refine gCall ?_
          refine gCons' ?_
          refine gCall ?_
          refine gCons' ?_
          refine gV rfl ?_
          refine gCons' ?_
          refine gV rfl ?_
          refine gNil' ?_
          obtain ⟨r2, hq2, hm6⟩ := bindS hm5
          refine ⟨G2, ((a1, HO.lst w3) :: (p1, HO.ins (He.ga K "Face") d1 []) :: O), x1, v4, x2, rfl, S4, h12, r2, hq2, fun v5 G3 H5 e3 S5 h13 => ?_⟩
          have h14 := R.up e3 h9
          have h15 := R.up e3 h10
          have h16 := Al.up e3 h8
          have h17 := R.up e3 h12
          have h18 := R.up e3 h11
          have E3 := E2.trans e3
          refine gNil' ?_
          obtain ⟨r3, hq3, hm7⟩ := bindS hm6
          refine ⟨G3, ((a1, HO.lst w3) :: (p1, HO.ins (He.ga K "Face") d1 []) :: O), v5, r2, rfl, S5, ((cv_TQ (K := K) (fun _ _ => (cv_TQ (K := K) (fun _ _ => (fun h => h))))) h13), r3, hq3, fun v6 G4 H6 e4 S6 h19 => ?_⟩
          have h20 := R.up e4 h14
          have h21 := R.up e4 h15
          have h22 := Al.up e4 h16
          have h23 := R.up e4 h17
          have h24 := R.up e4 h18
          have E4 := E3.trans e4
          refine gS_IfS ?_
          refine gTest ?_
          refine gOp ?_
          refine gCall ?_
          refine gCons' ?_
          refine gV rfl ?_
          refine gNil' ?_
          obtain ⟨r4, hq4, hm8⟩ := bindS hm7
          refine ⟨G4, ((a1, HO.lst w3) :: (p1, HO.ins (He.ga K "Face") d1 []) :: O), v6, r3, rfl, S6, h19, r4, hq4, fun G5 H7 e5 S7 => ?_⟩
          have h25 := R.up e5 h20
          have h26 := R.up e5 h21
          have h27 := Al.up e5 h22
          have h28 := R.up e5 h23
          have h29 := R.up e5 h19
          have h30 := R.up e5 h24
          have E5 := E4.trans e5
          refine gC ?_
          refine ⟨_, _, rfl, rfl, ?_⟩
          refine ⟨(decide (r4 = (0 : Int))), rfl, ?_⟩
          refine ite2 (fun c2 => ?_) (fun c2 => ?_)
          · skip
            have hm9 := (if_pos c2).symm.trans hm8
            cases hm9
          · skip
            have hm10 := (if_neg c2).symm.trans hm8
            refine gNext ?_
            refine gE ?_
            refine gDrop ?_
            refine gBM ?_
            refine gV rfl ?_
            refine ⟨.inl ⟨rfl, _, .inl (.inl S7.head)⟩, ?_⟩
            refine gCons' ?_
            refine gV rfl ?_
            refine gNil' ?_
            obtain ⟨found3, hq5, hm11⟩ := bindS hm10
            refine q_app S7 h27 (show R.rel (rT K (rEn e_Ink)) G5 v6 r3 from h29) hq5 (fun H8 w4 S8 h31 => ?_)
            cases hm11
            exact ⟨_, ⟨G5, w4, _, _, _, _, _, _, _, (((e2.trans e3).trans e4).trans e5), S8, rfl, h31⟩, hr1⟩
        · intro s σ H h1 h2
          obtain ⟨G, k1, k2, k3, k4, k5, k6, k7, k8, ie, irest⟩ := h2
          exact ⟨s, h1, G, k1, k2, k3, k4, k5, k6, k7, k8, (ie), irest⟩
      · intro σ2 H9 hJ1
        obtain ⟨found1, hres1, hJ2⟩ := hJ1
        subst hres1
        dsimp only at hm4
        obtain ⟨G6, w5, y15, y16, y17, y18, y19, y20, y21, e6, S9, rfl, h32⟩ := hJ2
        have h33 := R.up e6 h3
        have h34 := R.up e6 h2
        have E6 := E1.trans e6
        refine gS_SFld ?_
        refine gV rfl ?_
        refine gV rfl ?_
        have S10 : Sub G6 ((p1, HO.ins (He.ga K "Face") d1 []) :: (a1, HO.lst w5) :: O) H9 := S9.front 1 rfl rfl
        refine ⟨p1, _, d1, _, rfl, S10.head, T.cl_Face, T.n_Face_apart, (show 0 < 1000 by decide), ?_⟩
        have S11 : Sub G6 ((p1, HO.ins (He.ga K "Face") d1 [("apart", (V.int apart1))]) :: (a1, HO.lst w5) :: O) _ := Sub.wr (o' := HO.ins (He.ga K "Face") d1 (putF "apart" (V.int apart1) [])) S10
        refine gS_SFld ?_
        refine gCB ?_
        refine gCons' ?_
        refine gV rfl ?_
        refine gNil' ?_
        have S12 : Sub G6 ((a1, HO.lst w5) :: (p1, HO.ins (He.ga K "Face") d1 [("apart", (V.int apart1))]) :: O) _ := S11.front 1 rfl rfl
        refine q_tupO S12 h32 (fun v7 G7 H10 e7 S13 h35 => ?_)
        have h36 := R.up e7 h33
        have h37 := R.up e7 h34
        have h38 := Al.up e7 h32
        have E7 := E6.trans e7
        refine gV rfl ?_
        have S14 : Sub G7 ((p1, HO.ins (He.ga K "Face") d1 [("apart", (V.int apart1))]) :: (a1, HO.lst w5) :: O) H10 := S13.front 1 rfl rfl
        refine ⟨p1, _, d1, _, rfl, S14.head, T.cl_Face, T.n_Face_inks, (show 1 < 1000 by decide), ?_⟩
        have S15 : Sub G7 ((p1, HO.ins (He.ga K "Face") d1 [("apart", (V.int apart1)), ("inks", v7)]) :: (a1, HO.lst w5) :: O) _ := Sub.wr (o' := HO.ins (He.ga K "Face") d1 (putF "inks" v7 [("apart", (V.int apart1))])) S14
        refine gS_SFld ?_
        refine gDNew (fun p2 hp1 => ?_)
        have S16 := S15.newOwn (o := HO.dK []) hp1
        have h39 : AlD (rP2 K rInt (rO rInt)) G7 [] [] := True.intro
        refine gV rfl ?_
        have S17 : Sub G7 ((p1, HO.ins (He.ga K "Face") d1 [("apart", (V.int apart1)), ("inks", v7)]) :: (p2, HO.dK []) :: (a1, HO.lst w5) :: O) (upd _ p2 (HO.dK [])) := S16.front 1 rfl rfl
        refine ⟨p1, _, d1, _, rfl, S17.head, T.cl_Face, T.n_Face_gaps_and_bars, (show 2 < 1000 by decide), ?_⟩
        have S18 : Sub G7 ((p1, HO.ins (He.ga K "Face") d1 [("apart", (V.int apart1)), ("inks", v7), ("gaps_and_bars", (V.ref p2))]) :: (p2, HO.dK []) :: (a1, HO.lst w5) :: O) _ := Sub.wr (o' := HO.ins (He.ga K "Face") d1 (putF "gaps_and_bars" (V.ref p2) [("apart", (V.int apart1)), ("inks", v7)])) S17
        obtain ⟨G8, e8, S19, h40⟩ := frz_I S18
        have h41 := R.up e8 h35
        have h42 := R.up e8 h36
        have h43 := R.up e8 h37
        have h44 := Al.up e8 h38
        have h45 := AlD.up e8 h39
        have E8 := E7.trans e8
        have S20 : Sub G8 ((a1, HO.lst w5) :: (p2, HO.dK []) :: O) _ := S19.front 1 rfl rfl
        obtain ⟨G9, e9, S21, h46⟩ := frz_M S20 h44
        have h47 := R.up e9 h41
        have h48 := InsAt.up e9 h40
        have h49 := R.up e9 h42
        have h50 := R.up e9 h43
        have h51 := AlD.up e9 h45
        have E9 := E8.trans e9
        obtain ⟨d_gaps_and_bars1, hl2, hm12⟩ := bindS hm4
        refine gCS (fun (σ : L2.St) (H : Hp) => ∃ (G : Hp) (y22 : Option V) (y23 : Option V) (y24 : Option V) (y25 : Option V) (y26 : Option V) (y27 : Option V) (y28 : Option V) (ks1 : List (L2.Key × V)), Ext G9 G ∧ Sub G ((p2, HO.dK ks1) :: O) H ∧ σ = [some (V.ref p1), some v1, some (V.int apart1), some v2, some (V.ref a1), y22, y23, y24, y25, y26, y27, y28] ∧ AlD (rP2 K rInt (rO rInt)) G ks1 d_gaps_and_bars1) ?_ ?_
        · skip
          refine gFor ?_
          refine gIZp ?_
          refine gCons' ?_
          refine gC ?_
          refine gCons' ?_
          refine gV rfl ?_
          refine gNil' ?_
          refine lp_Zp S21 (SrR.ofTx ([97, 98, 99, 100] : Wrd)) (SrR.ofL (rM_L (K := K) h46)) (fol_for Empty hl2) (fun (s : (List (Wrd × (Int × (Option Int))))) (σ : L2.St) (H : Hp) => ∃ (G : Hp) (y22 : Option V) (y23 : Option V) (y24 : Option V) (y25 : Option V) (y26 : Option V) (y27 : Option V) (y28 : Option V) (ks1 : List (L2.Key × V)), Ext G9 G ∧ Sub G ((p2, HO.dK ks1) :: O) H ∧ σ = [some (V.ref p1), some v1, some (V.int apart1), some v2, some (V.ref a1), y22, y23, y24, y25, y26, y27, y28] ∧ AlD (rP2 K rInt (rO rInt)) G ks1 s) ⟨G9, _, _, _, _, _, _, _, ([] : List (L2.Key × V)), (Ext.refl _), S21, rfl, h51⟩ ?_ ?_ ?_
          · intro s σ H hI
            obtain ⟨G, k9, k10, k11, k12, k13, k14, k15, k16, ie, iS, _⟩ := hI
            exact ie.trans iS.ext
          · intro i2 x3 x4 d_gaps_and_bars2 b2 hb2 hr2 v8 v9 σ3 H11 H12 hI2 hS2 h52 h53
            obtain ⟨s3, hb3, hb4⟩ := goF_some hb2
            subst hb4
            obtain ⟨G10, y29, y30, y31, y32, y33, y34, y35, ks2, e10, S22, rfl, h54⟩ := hI2
            have h55 := InsAt.up e10 h48
            have h56 := R.up e10 h47
            have h57 := R.up e10 h49
            have h58 := R.up e10 h50
            have h59 := R.up e10 h46
            have h60 := R.up e10 (rM_L (K := K) h46)
            have E10 := E9.trans e10
            have S23 := hS2 _ _ S22
            obtain rfl := (show v8 = (V.str (e_T x3)) from h52)
            have h61 := R.up e10 h53
            have hm13 : (Option.bind (folM (m_Face___init___b3 apart1 x3 x4) (List.zip (sgT ([97, 98, 99, 100] : Wrd)) found1) d_gaps_and_bars2) fun d_gaps_and_bars3 =>   some d_gaps_and_bars3) = some s3 := hb3
            obtain ⟨d_gaps_and_bars3, hl3, hm14⟩ := bindS hm13
            refine gCS (fun (σ : L2.St) (H : Hp) => ∃ (G : Hp) (y36 : Option V) (y37 : Option V) (y38 : Option V) (y39 : Option V) (y40 : Option V) (ks3 : List (L2.Key × V)), Ext G10 G ∧ Sub G ((p2, HO.dK ks3) :: O) H ∧ σ = [some (V.ref p1), some v1, some (V.int apart1), some v2, some (V.ref a1), y36, y37, y38, some (V.str (e_T x3)), some v9, y39, y40] ∧ AlD (rP2 K rInt (rO rInt)) G ks3 d_gaps_and_bars3) ?_ ?_
            · skip
              refine gFor ?_
              refine gIZp ?_
              refine gCons' ?_
              refine gC ?_
              refine gCons' ?_
              refine gV rfl ?_
              refine gNil' ?_
              refine lp_Zp S23 (SrR.ofTx ([97, 98, 99, 100] : Wrd)) (SrR.ofL (rM_L (K := K) h59)) (fol_for Empty hl3) (fun (s : (List (Wrd × (Int × (Option Int))))) (σ : L2.St) (H : Hp) => ∃ (G : Hp) (y36 : Option V) (y37 : Option V) (y38 : Option V) (y39 : Option V) (y40 : Option V) (ks3 : List (L2.Key × V)), Ext G10 G ∧ Sub G ((p2, HO.dK ks3) :: O) H ∧ σ = [some (V.ref p1), some v1, some (V.int apart1), some v2, some (V.ref a1), y36, y37, y38, some (V.str (e_T x3)), some v9, y39, y40] ∧ AlD (rP2 K rInt (rO rInt)) G ks3 s) ⟨G10, _, _, _, _, _, ks2, (Ext.refl _), S23, rfl, h54⟩ ?_ ?_ ?_
              · intro s σ H hI
                obtain ⟨G, k17, k18, k19, k20, k21, k22, ie, iS, _⟩ := hI
                exact ie.trans iS.ext
              · intro i3 x5 x6 d_gaps_and_bars4 b3 hb5 hr3 v10 v11 σ4 H13 H14 hI3 hS3 h62 h63
                obtain ⟨s5, hb6, hb7⟩ := goF_some hb5
                subst hb7
                obtain ⟨G11, y41, y42, y43, y44, y45, ks4, e11, S24, rfl, h64⟩ := hI3
                have h65 := InsAt.up e11 h55
                have h66 := R.up e11 h56
                have h67 := R.up e11 h57
                have h68 := R.up e11 h58
                have h69 := R.up e11 h59
                have h70 := R.up e11 h61
                have h71 := R.up e11 h60
                have h72 := R.up e11 (rM_L (K := K) h59)
                have E11 := E10.trans e11
                have S25 := hS3 _ _ S24
                obtain rfl := (show v10 = (V.str (e_T x5)) from h62)
                have h73 := R.up e11 h63
                have hm15 : (Option.bind (m_Face_gap_and_bar apart1 x4 x6) fun r5 =>   Option.bind (catT x3 x5) fun t1 =>   Option.bind (putWM d_gaps_and_bars4 t1 r5) fun kvs1 =>   some kvs1) = some s5 := hb6
                refine gDPut ?_
                refine gMeth ?_
                refine gV rfl ?_
                obtain ⟨a2, d2, ev1, ha1⟩ := ins_prop S25 h65
                refine ⟨a2, d2, _, ev1, ha1, (by rfl), ?_⟩
                refine gCons' ?_
                refine gV rfl ?_
                refine gCons' ?_
                refine gV rfl ?_
                refine gNil' ?_
                obtain ⟨r5, hq6, hm16⟩ := bindS hm15
                refine ⟨G11, ((p2, HO.dK ks4) :: O), (V.ref p1), apart1, v9, x4, v11, x6, rfl, S25, (show R.rel (rIP (He.ga K "Face") "apart" rInt) G11 (V.ref p1) apart1 from ⟨_, _, h65, rfl, rfl⟩), h70, h73, r5, hq6, fun v12 G12 H15 e12 S26 h74 => ?_⟩
                have h75 := R.up e12 h66
                have h76 := InsAt.up e12 h65
                have h77 := R.up e12 h67
                have h78 := R.up e12 h68
                have h79 := R.up e12 h69
                have h80 := R.up e12 h70
                have h81 := R.up e12 h73
                have h82 := AlD.up e12 h64
                have h83 := R.up e12 h71
                have h84 := R.up e12 h72
                have E12 := E11.trans e12
                refine gFld ?_
                refine gV rfl ?_
                obtain ⟨a3, d3, ev2, ha2⟩ := ins_prop S26 h76
                refine ⟨a3, _, d3, _, _, ev2, ha2, T.cl_Face, T.n_Face_gaps_and_bars, rfl, ?_⟩
                refine gOp ?_
                refine gV rfl ?_
                refine gV rfl ?_
                obtain ⟨t1, hq7, hm17⟩ := bindS hm16
                refine q_catT hq7 ?_
                obtain ⟨kvs1, hq8, hm18⟩ := bindS hm17
                refine q_dput S26 h82 (show R.rel (rP2 K rInt (rO rInt)) G12 v12 r5 from h74) hq8 (fun H16 ks5 S27 h85 => ?_)
                cases hm18
                exact ⟨_, ⟨G12, _, _, _, _, _, ks5, (e11.trans e12), S27, rfl, h85⟩, hr3⟩
              · intro s σ H h1 h2
                cases h1
                obtain ⟨G, k17, k18, k19, k20, k21, k22, ie, irest⟩ := h2
                exact ⟨G, k17, k18, k19, k20, k21, k22, (ie), irest⟩
            · intro σ5 H17 hJ3
              obtain ⟨G13, y46, y47, y48, y49, y50, ks6, e13, S28, rfl, h86⟩ := hJ3
              have h87 := InsAt.up e13 h55
              have h88 := R.up e13 h56
              have h89 := R.up e13 h57
              have h90 := R.up e13 h58
              have h91 := R.up e13 h59
              have h92 := R.up e13 h61
              have h93 := R.up e13 h60
              have E13 := E10.trans e13
              cases hm14
              exact ⟨_, ⟨G13, _, _, _, _, _, _, _, ks6, (e10.trans e13), S28, rfl, h86⟩, hr2⟩
          · intro s σ H h1 h2
            cases h1
            obtain ⟨G, k9, k10, k11, k12, k13, k14, k15, k16, ie, irest⟩ := h2
            exact ⟨G, k9, k10, k11, k12, k13, k14, k15, k16, (ie), irest⟩
        · intro σ6 H18 hJ4
          obtain ⟨G14, y51, y52, y53, y54, y55, y56, y57, ks7, e14, S29, rfl, h94⟩ := hJ4
          have h95 := InsAt.up e14 h48
          have h96 := R.up e14 h47
          have h97 := R.up e14 h49
          have h98 := R.up e14 h50
          have h99 := R.up e14 h46
          have E14 := E9.trans e14
          obtain ⟨G15, e15, S30, h100⟩ := frz_D S29
          have h101 := R.up e15 h96
          have h102 := InsAt.up e15 h95
          have h103 := R.up e15 h97
          have h104 := R.up e15 h98
          have h105 := R.up e15 h99
          have h106 := AlD.up e15 h94
          have E15 := E14.trans e15
          have h107 : R.rel (rSD (rP2 K rInt (rO rInt))) G15 (V.ref p2) d_gaps_and_bars1 := ⟨_, _, rfl, h100, h106⟩
          cases hm12
          exact q G15 H18 E15 S30 ⟨(V.int apart1), v7, (V.ref p2), h102, rfl, h101, h107⟩
end
end Mr

set_option Elab.async false
set_option linter.all false
set_option maxRecDepth 100000
set_option maxHeartbeats 4000000
set_option synthInstance.maxSize 4000
set_option synthInstance.maxHeartbeats 400000
namespace Mr
open PySem PySem.Spec PyProof.Rows L2 GFr
section
variable {P : Program} {w : World} {K : PySem.W.Frag} {mg : Str → Option Value} {base : Heap}
theorem sc_law_bag : FnScope ["_law_script", "_law_at", "_law_great", "_law_mixed", "_law_place", "_law_cell"] ["_law_script", "_law_at"] (defScope s_law_bag) := ⟨rfl, rfl, rfl, by decide +kernel, rfl, by decide +kernel, by decide +kernel⟩
theorem ok_law_bag (T : Tx K mg) : FnOk P w K mg base CX0 1 (He.fAd K ("_law_bag", none)) T.fd_law_bag ["_law_script", "_law_at"] (sp_law_bag K) := by
  refine T.F_law_bag.ok sc_law_bag (fun vs H Q E h => ?_) (fun cdv A outer s H0 vs Q E hr h => ?_)
  · obtain ⟨G, O, v1, script1, at1, rfl, _⟩ := h
    rfl
  · obtain ⟨G0, O, v1, script1, at1, rfl, S0, h1, res, hm, q⟩ := h
    refine ⟨_, PSs.nox (pss_cons (ps_set (i := 2) sc_law_bag.nd rfl (.inl rfl) (pe_cut (pe_ifExp (pt_cmpR op_lt (pv 1) (pe_callB (r := rLenM K) call_lenM (by rfl) T.z_len boot_len (pa_cons (pv 0) pa_nil)) (nomark _)) (pe_callB call_abs (by rfl) T.z_abs boot_abs (pa_cons (pe_callTy call_int1 (by rfl) T.z_int boot_int (pa_cons (pe_ix ix_list (pv 0) (pv 1) (fun _ _ => rfl)) pa_nil)) pa_nil)) pe_int)))
      (pss_cons (ps_set (i := 3) sc_law_bag.nd rfl (.inl rfl) (pe_op op_add pe_int (pe_op op_mul pe_int (pv 1))))
      (pss_cons (ps_cut (ps_for PassesOwn.never rfl (pi_enumQ (by rfl) T.z_enumerate (pa_cons (pe_slice sl_list (pv 0) po_none (po_some pe_int)) pa_nil)) (pg_tup rfl (pgs_cons (pg_name (i := 4) sc_law_bag.nd rfl (.inl rfl)) (pgs_cons (pg_name (i := 5) sc_law_bag.nd rfl (.inl rfl)) pgs_nil)))
      (pss_one (ps_set (i := 3) sc_law_bag.nd rfl (.inl rfl) (pe_op op_mod (pe_callTy call_int1 (by rfl) T.z_int boot_int (pa_cons (pe_op op_add (pe_op op_add (pe_op op_mul (pv 3) pe_int) (pe_op op_mod (pe_callTy call_int1 (by rfl) T.z_int boot_int (pa_cons (pv 5) pa_nil)) pe_int)) (pe_op op_mul pe_int (pv 4))) pa_nil)) pe_int)))))
      (pss_one (ps_ret (pe_lst (pa_cons (pe_cut (pe_ifExp (pt_cmpR op_ge (pv 2) (pe_op op_pow pe_int pe_int) (nomark _)) (pv 2) pe_int)) (pa_cons (pv 3) (pa_cons pe_int pa_nil))))))))), ?_⟩
    have E0 := Ext.refl G0
    have hm0 : (Option.bind (if (decide (at1 < (script1.length : Int))) then (Option.bind (getM script1 at1) fun x1 =>
  some (if x1 < 0 then -x1 else x1)) else (some (0 : Int))) fun x2 =>
  Option.bind (folM (m_law_bag_b1) (enumM (cutM script1 none (some (63 : Int)))) ((1009 : Int) + ((77 : Int) * at1))) fun mixed1 =>
  some ([(if (decide (x2 ≥ ((10 : Int) ^ (18 : Int).toNat))) then x2 else (0 : Int)), mixed1, (0 : Int)] : List Int)) = some res := hm
    refine gS_AsgN ?_
    obtain ⟨x2, hq2, hm2⟩ := bindS hm0
    refine gCE (fun (v : V) (H : Hp) => ∃ (G : Hp), Ext G0 G ∧ Sub G (O) H ∧ v = (V.int x2)) ?_ ?_
    · skip
      refine gIf ?_
      refine gTest ?_
      refine gOp ?_
      refine gV rfl ?_
      refine gCB ?_
      refine gCons' ?_
      refine gV rfl ?_
      refine gNil' ?_
      refine q_lenL (y := V.non) S0 h1 ?_
      refine ⟨_, _, rfl, rfl, ?_⟩
      refine ⟨(decide (at1 < (script1.length : Int))), rfl, ?_⟩
      refine ite2 (fun c1 => ?_) (fun c1 => ?_)
      · skip
        have hm3 := (if_pos c1).symm.trans hq2
        refine gCB ?_
        refine gCons' ?_
        refine gCB ?_
        refine gCons' ?_
        refine gOp ?_
        refine gV rfl ?_
        refine gV rfl ?_
        obtain ⟨x3, hq3, hm4⟩ := bindS hm3
        refine q_ixL S0 h1 hq3 (fun v3 h3 => ?_)
        obtain rfl := (show v3 = (V.int x3) from h3)
        refine gNil' ?_
        refine .inl ⟨_, rfl, ?_⟩
        refine gNil' ?_
        refine ⟨_, rfl, ?_⟩
        cases hm4
        exact ⟨G0, (Ext.refl _), S0, rfl⟩
      · skip
        have hm5 := (if_neg c1).symm.trans hq2
        refine gC ?_
        cases hm5
        exact ⟨G0, (Ext.refl _), S0, rfl⟩
    · intro v4 H1 hJ
      obtain ⟨G1, e1, S1, rfl⟩ := hJ
      have h5 := R.up e1 h1
      have E1 := E0.trans e1
      refine gS_AsgN ?_
      refine gOp ?_
      refine gC ?_
      refine gOp ?_
      refine gC ?_
      refine gV rfl ?_
      refine ⟨_, _, rfl, rfl, .inl ⟨by decide, by decide⟩, ?_⟩
      refine ⟨_, _, rfl, rfl, ?_⟩
      obtain ⟨mixed1, hl1, hm6⟩ := bindS hm2
      refine gS_CS (fun (σ : L2.St) (H : Hp) => ∃ (G : Hp) (y1 : Option V) (y2 : Option V), Ext G1 G ∧ Sub G (O) H ∧ σ = [some v1, some (V.int at1), some (V.int x2), some (V.int mixed1), y1, y2]) ?_ ?_
      · skip
        refine gFor ?_
        refine gIE ?_
        refine gCons' ?_
        refine gSl ?_
        refine gV rfl ?_
        refine gNoPart ?_
        refine gPart ?_
        refine gC ?_
        refine ⟨_, rfl, ?_⟩
        refine q_slM S1 h5 (fun v5 G2 H2 e2 S2 h6 => ?_)
        have h7 := R.up e2 h5
        have E2 := E1.trans e2
        refine gNil' ?_
        refine lp_EQ (r := rInt) S2 (rM_Q (K := K) h6) (fol_for Empty hl1) (fun (s : Int) (σ : L2.St) (H : Hp) => ∃ (G : Hp) (y1 : Option V) (y2 : Option V), Ext G2 G ∧ Sub G (O) H ∧ σ = [some v1, some (V.int at1), some (V.int x2), some (V.int s), y1, y2]) ⟨G2, _, _, (Ext.refl _), S2, rfl⟩ ?_ ?_ ?_
        · intro s σ H hI
          obtain ⟨G, k1, k2, ie, iS, _⟩ := hI
          exact ie.trans iS.ext
        · intro i1 x4 mixed2 b1 hb1 hr1 v6 σ1 H3 H4 hI1 hS1 h8
          obtain ⟨s2, hb2, hb3⟩ := goF_some hb1
          subst hb3
          obtain ⟨G3, y3, y4, e3, S3, rfl⟩ := hI1
          have h9 := R.up e3 h7
          have h10 := R.up e3 h6
          have E3 := E2.trans e3
          have S4 := hS1 _ _ S3
          generalize ((i1 : Nat) : Int) = k3 at hb2 ⊢
          obtain rfl := (show v6 = (V.int x4) from h8)
          have hm7 : (some ((((mixed2 * (16807 : Int)) + (x4 % (2147483629 : Int))) + ((13 : Int) * k3)) % (2147483647 : Int))) = some s2 := hb2
          refine gAsgN ?_
          refine gOp ?_
          refine gCB ?_
          refine gCons' ?_
          refine gOp ?_
          refine gOp ?_
          refine gOp ?_
          refine gV rfl ?_
          refine gC ?_
          refine ⟨_, _, rfl, rfl, .inr ⟨by decide, by decide⟩, ?_⟩
          refine gOp ?_
          refine gCB ?_
          refine gCons' ?_
          refine gV rfl ?_
          refine gNil' ?_
          refine .inl ⟨_, rfl, ?_⟩
          refine gC ?_
          refine ⟨_, _, rfl, rfl, (by show (0 : Int) < 2147483629; decide), ?_⟩
          refine ⟨_, _, rfl, rfl, ?_⟩
          refine gOp ?_
          refine gC ?_
          refine gV rfl ?_
          refine ⟨_, _, rfl, rfl, .inl ⟨by decide, by decide⟩, ?_⟩
          refine ⟨_, _, rfl, rfl, ?_⟩
          refine gNil' ?_
          refine .inl ⟨_, rfl, ?_⟩
          refine gC ?_
          refine ⟨_, _, rfl, rfl, (by show (0 : Int) < 2147483647; decide), ?_⟩
          cases hm7
          exact ⟨_, ⟨G3, _, _, e3, S4, rfl⟩, hr1⟩
        · intro s σ H h1 h2
          cases h1
          obtain ⟨G, k1, k2, ie, irest⟩ := h2
          exact ⟨G, k1, k2, (e2.trans ie), irest⟩
      · intro σ2 H5 hJ1
        obtain ⟨G4, y5, y6, e4, S5, rfl⟩ := hJ1
        have h11 := R.up e4 h5
        have E4 := E1.trans e4
        refine gRet ?_
        refine gLst ?_
        refine gCons' ?_
        refine gCE (fun (v : V) (H : Hp) => ∃ (G : Hp), Ext G4 G ∧ Sub G (O) H ∧ v = (V.int (if (decide (x2 ≥ ((10 : Int) ^ (18 : Int).toNat))) then x2 else (0 : Int)))) ?_ ?_
        · skip
          refine gIf ?_
          refine gTest ?_
          refine gOp ?_
          refine gV rfl ?_
          refine gOp ?_
          refine gC ?_
          refine gC ?_
          refine ⟨_, _, rfl, rfl, ⟨by decide, by decide, by decide⟩, ?_⟩
          refine ⟨_, _, rfl, rfl, ?_⟩
          refine ⟨(decide (x2 ≥ ((10 : Int) ^ (18 : Int).toNat))), rfl, ?_⟩
          refine ite2 (fun c2 => ?_) (fun c2 => ?_)
          · skip
            refine gV rfl ?_
            exact ⟨G4, (Ext.refl _), S5, congrArg V.int (if_pos c2).symm⟩
          · skip
            refine gC ?_
            exact ⟨G4, (Ext.refl _), S5, congrArg V.int (if_neg c2).symm⟩
        · intro v7 H6 hJ
          obtain ⟨G5, e5, S6, rfl⟩ := hJ
          have h13 := R.up e5 h11
          have E5 := E4.trans e5
          refine gCons' ?_
          refine gV rfl ?_
          refine gCons' ?_
          refine gC ?_
          refine gNil' ?_
          have h14 : Al rInt G5 [(V.int (if (decide (x2 ≥ ((10 : Int) ^ (18 : Int).toNat))) then x2 else (0 : Int))), (V.int mixed1), (V.int (0 : Int))] [(if (decide (x2 ≥ ((10 : Int) ^ (18 : Int).toNat))) then x2 else (0 : Int)), mixed1, (0 : Int)] := ⟨rfl, rfl, rfl, True.intro⟩
          refine q_lst S6 h14 (by show 3 ≤ 100000; decide) (fun a1 H7 w1 S7 h15 => ?_)
          cases hm6
          exact q a1 w1 G5 H7 E5 S7 h15
end
end Mr

set_option Elab.async false
set_option linter.all false
set_option maxRecDepth 100000
set_option maxHeartbeats 4000000
set_option synthInstance.maxSize 4000
set_option synthInstance.maxHeartbeats 400000
namespace Mr
open PySem PySem.Spec PyProof.Rows L2 GFr
section
variable {P : Program} {w : World} {K : PySem.W.Frag} {mg : Str → Option Value} {base : Heap}
theorem sc_law_draw : FnScope ["_law_bag_here", "_law_many", "_law_digit"] ["_law_bag_here", "_law_many"] (defScope s_law_draw) := ⟨rfl, rfl, rfl, by decide +kernel, rfl, by decide +kernel, by decide +kernel⟩
theorem ok_law_draw (T : Tx K mg) : FnOk P w K mg base CX0 1 (He.fAd K ("_law_draw", none)) T.fd_law_draw ["_law_bag_here", "_law_many"] (sp_law_draw K) := by
  refine T.F_law_draw.ok sc_law_draw (fun vs H Q E h => ?_) (fun cdv A outer s H0 vs Q E hr h => ?_)
  · obtain ⟨G, O, a1, w1, bag_here1, many1, rfl, _⟩ := h
    rfl
  · obtain ⟨G0, O, a1, w1, bag_here1, many1, rfl, S0, h1, res, hm, q⟩ := h
    refine ⟨_, PSs.nox (pss_cons (ps_if (pt_cmpR op_gt (pe_ix ix_list (pv 0) pe_int (fun _ _ => rfl)) pe_int (nomark _)) (pss_cons (ps_set (i := 2) sc_law_draw.nd rfl (.inl rfl) (pe_op op_mod (pe_callTy call_int1 (by rfl) T.z_int boot_int (pa_cons (pe_ix ix_list (pv 0) pe_int (fun _ _ => rfl)) pa_nil)) (pv 1)))
      (pss_cons (ps_asg (pe_op op_fdivW (pe_ix ix_list (pv 0) pe_int (fun _ _ => rfl)) (pv 1)) (pg_sub (pv 0) pe_int set_list))
      (pss_one (ps_ret (pv 2))))) pss_nil)
      (pss_cons (ps_asg (pe_op op_add (pe_ix ix_list (pv 0) pe_int (fun _ _ => rfl)) pe_int) (pg_sub (pv 0) pe_int set_list))
      (pss_cons (ps_asg (pe_op op_mod (pe_callTy call_int1 (by rfl) T.z_int boot_int (pa_cons (pe_op op_add (pe_op op_add (pe_op op_mul (pe_ix ix_list (pv 0) pe_int (fun _ _ => rfl)) pe_int) (pe_op op_mul pe_int (pe_ix ix_list (pv 0) pe_int (fun _ _ => rfl)))) pe_int) pa_nil)) pe_int) (pg_sub (pv 0) pe_int set_list))
      (pss_one (ps_ret (pe_op op_mod (pe_op op_fdivW (pe_callTy call_int1 (by rfl) T.z_int boot_int (pa_cons (pe_op op_mod (pe_callTy call_int1 (by rfl) T.z_int boot_int (pa_cons (pe_op op_add (pe_op op_mul (pe_ix ix_list (pv 0) pe_int (fun _ _ => rfl)) pe_int) (pe_op op_mul pe_int (pe_ix ix_list (pv 0) pe_int (fun _ _ => rfl)))) pa_nil)) pe_int) pa_nil)) pe_int) (pv 1))))))), ?_⟩
    have E0 := Ext.refl G0
    have hm0 : (Option.bind (getM bag_here1 (0 : Int)) fun x1 =>
  if (decide (x1 > (0 : Int))) then (Option.bind (getM bag_here1 (0 : Int)) fun x2 =>
  Option.bind (modM x2 many1) fun x3 =>
  Option.bind (getM bag_here1 (0 : Int)) fun x4 =>
  Option.bind (fdivM x4 many1) fun x5 =>
  Option.bind (setM bag_here1 (0 : Int) x5) fun bag_here2 =>
  some (x3, bag_here2))
  else (Option.bind (getM bag_here1 (2 : Int)) fun x6 =>
  Option.bind (setM bag_here1 (2 : Int) (x6 + (1 : Int))) fun bag_here3 =>
  Option.bind (getM bag_here3 (1 : Int)) fun x7 =>
  Option.bind (getM bag_here3 (2 : Int)) fun x8 =>
  Option.bind (setM bag_here3 (1 : Int) ((((x7 * (48271 : Int)) + ((11 : Int) * x8)) + (7 : Int)) % (2147483647 : Int))) fun bag_here4 =>
  Option.bind (getM bag_here4 (1 : Int)) fun x9 =>
  Option.bind (getM bag_here4 (2 : Int)) fun x10 =>
  Option.bind (modM ((((x9 * (69621 : Int)) + ((4099 : Int) * x10)) % (2147483629 : Int)) / (128 : Int)) many1) fun x11 =>
  some (x11, bag_here4))) = some res := hm
    refine gS_IfS ?_
    refine gTest ?_
    refine gOp ?_
    refine gOp ?_
    refine gV rfl ?_
    refine gC ?_
    obtain ⟨x1, hq1, hm1⟩ := bindS hm0
    refine q_ixO S0 h1 hq1 (fun v1 h2 => ?_)
    obtain rfl := (show v1 = (V.int x1) from h2)
    refine gC ?_
    refine ⟨_, _, rfl, rfl, ?_⟩
    refine ⟨(decide (x1 > (0 : Int))), rfl, ?_⟩
    refine ite2 (fun c1 => ?_) (fun c1 => ?_)
    · skip
      have hm2 := (if_pos c1).symm.trans hm1
      refine gS_AsgN ?_
      refine gOp ?_
      refine gCB ?_
      refine gCons' ?_
      refine gOp ?_
      refine gV rfl ?_
      refine gC ?_
      obtain ⟨x2, hq2, hm3⟩ := bindS hm2
      refine q_ixO S0 h1 hq2 (fun v2 h3 => ?_)
      obtain rfl := (show v2 = (V.int x2) from h3)
      refine gNil' ?_
      refine .inl ⟨_, rfl, ?_⟩
      refine gV rfl ?_
      obtain ⟨x3, hq3, hm4⟩ := bindS hm3
      refine q_mod hq3 ?_
      refine gS_Asg ?_
      refine gOp ?_
      refine gOp ?_
      refine gV rfl ?_
      refine gC ?_
      obtain ⟨x4, hq4, hm5⟩ := bindS hm4
      refine q_ixO S0 h1 hq4 (fun v3 h4 => ?_)
      obtain rfl := (show v3 = (V.int x4) from h4)
      refine gV rfl ?_
      obtain ⟨x5, hq5, hm6⟩ := bindS hm5
      refine q_fdiv hq5 ?_
      refine gSub' ?_
      refine gV rfl ?_
      refine gC ?_
      obtain ⟨bag_here2, hq6, hm7⟩ := bindS hm6
      refine q_setL S0 h1 (show R.rel rInt G0 (V.int x5) x5 from rfl) hq6 (fun H1 w2 S1 h5 => ?_)
      refine gRet ?_
      refine gV rfl ?_
      cases hm7
      exact q G0 H1 w2 E0 S1 h5
    · skip
      have hm8 := (if_neg c1).symm.trans hm1
      refine gNext ?_
      refine gE ?_
      refine gS_Asg ?_
      refine gOp ?_
      refine gOp ?_
      refine gV rfl ?_
      refine gC ?_
      obtain ⟨x6, hq7, hm9⟩ := bindS hm8
      refine q_ixO S0 h1 hq7 (fun v4 h6 => ?_)
      obtain rfl := (show v4 = (V.int x6) from h6)
      refine gC ?_
      refine ⟨_, _, rfl, rfl, ?_⟩
      refine gSub' ?_
      refine gV rfl ?_
      refine gC ?_
      obtain ⟨bag_here3, hq8, hm10⟩ := bindS hm9
      refine q_setL S0 h1 (show R.rel rInt G0 (V.int (x6 + (1 : Int))) (x6 + (1 : Int)) from rfl) hq8 (fun H2 w3 S2 h7 => ?_)
      refine gS_Asg ?_
      refine gOp ?_
      refine gCB ?_
      refine gCons' ?_
      refine gOp ?_
      refine gOp ?_
      refine gOp ?_
      refine gOp ?_
      refine gV rfl ?_
      refine gC ?_
      obtain ⟨x7, hq9, hm11⟩ := bindS hm10
      refine q_ixO S2 h7 hq9 (fun v5 h8 => ?_)
      obtain rfl := (show v5 = (V.int x7) from h8)
      refine gC ?_
      refine ⟨_, _, rfl, rfl, .inr ⟨by decide, by decide⟩, ?_⟩
      refine gOp ?_
      refine gC ?_
      refine gOp ?_
      refine gV rfl ?_
      refine gC ?_
      obtain ⟨x8, hq10, hm12⟩ := bindS hm11
      refine q_ixO S2 h7 hq10 (fun v6 h9 => ?_)
      obtain rfl := (show v6 = (V.int x8) from h9)
      refine ⟨_, _, rfl, rfl, .inl ⟨by decide, by decide⟩, ?_⟩
      refine ⟨_, _, rfl, rfl, ?_⟩
      refine gC ?_
      refine ⟨_, _, rfl, rfl, ?_⟩
      refine gNil' ?_
      refine .inl ⟨_, rfl, ?_⟩
      refine gC ?_
      refine ⟨_, _, rfl, rfl, (by show (0 : Int) < 2147483647; decide), ?_⟩
      refine gSub' ?_
      refine gV rfl ?_
      refine gC ?_
      obtain ⟨bag_here4, hq11, hm13⟩ := bindS hm12
      refine q_setL S2 h7 (show R.rel rInt G0 (V.int ((((x7 * (48271 : Int)) + ((11 : Int) * x8)) + (7 : Int)) % (2147483647 : Int))) ((((x7 * (48271 : Int)) + ((11 : Int) * x8)) + (7 : Int)) % (2147483647 : Int)) from rfl) hq11 (fun H3 w4 S3 h10 => ?_)
      refine gRet ?_
      refine gOp ?_
      refine gOp ?_
      refine gCB ?_
      refine gCons' ?_
      refine gOp ?_
      refine gCB ?_
      refine gCons' ?_
      refine gOp ?_
      refine gOp ?_
      refine gOp ?_
      refine gV rfl ?_
      refine gC ?_
      obtain ⟨x9, hq12, hm14⟩ := bindS hm13
      refine q_ixO S3 h10 hq12 (fun v7 h11 => ?_)
      obtain rfl := (show v7 = (V.int x9) from h11)
      refine gC ?_
      refine ⟨_, _, rfl, rfl, .inr ⟨by decide, by decide⟩, ?_⟩
      refine gOp ?_
      refine gC ?_
      refine gOp ?_
      refine gV rfl ?_
      refine gC ?_
      obtain ⟨x10, hq13, hm15⟩ := bindS hm14
      refine q_ixO S3 h10 hq13 (fun v8 h12 => ?_)
      obtain rfl := (show v8 = (V.int x10) from h12)
      refine ⟨_, _, rfl, rfl, .inl ⟨by decide, by decide⟩, ?_⟩
      refine ⟨_, _, rfl, rfl, ?_⟩
      refine gNil' ?_
      refine .inl ⟨_, rfl, ?_⟩
      refine gC ?_
      refine ⟨_, _, rfl, rfl, (by show (0 : Int) < 2147483629; decide), ?_⟩
      refine gNil' ?_
      refine .inl ⟨_, rfl, ?_⟩
      refine gC ?_
      refine ⟨_, _, rfl, rfl, ⟨by decide, by decide⟩, ?_⟩
      refine gV rfl ?_
      obtain ⟨x11, hq14, hm16⟩ := bindS hm15
      refine q_mod hq14 ?_
      cases hm16
      exact q G0 H3 w4 E0 S3 h10
end
end Mr

set_option Elab.async false
set_option linter.all false
set_option maxRecDepth 100000
set_option maxHeartbeats 4000000
set_option synthInstance.maxSize 4000
set_option synthInstance.maxHeartbeats 400000
namespace Mr
open PySem PySem.Spec PyProof.Rows L2 GFr
section
variable {P : Program} {w : World} {K : PySem.W.Frag} {mg : Str → Option Value} {base : Heap}
theorem sc_law_one : FnScope ["_law_bag_here", "_law_things"] ["_law_bag_here", "_law_things"] (defScope s_law_one) := ⟨rfl, rfl, rfl, by decide +kernel, rfl, by decide +kernel, by decide +kernel⟩
theorem ok_law_one (T : Tx K mg) : FnOk P w K mg base CX0 2 (He.fAd K ("_law_one", none)) T.fd_law_one ["_law_bag_here", "_law_things"] (sp_law_one K) := by
  have G_law_draw := ok_law_draw (P := P) (w := w) (base := base) T
  refine T.F_law_one.ok sc_law_one (fun vs H Q E h => ?_) (fun cdv A outer s H0 vs Q E hr h => ?_)
  · obtain ⟨G, O, a1, w1, bag_here1, v1, things1, rfl, _⟩ := h
    rfl
  · obtain ⟨G0, O, a1, w1, bag_here1, v1, things1, rfl, S0, h1, h2, res, hm, q⟩ := h
    refine ⟨_, PSs.nox (pss_one (ps_ret (pe_ix ix_list (pv 1) (pe_call G_law_draw (hr.mono (by decide)) (by rfl) T.g_law_draw T.F_law_draw.kp T.b_law_draw .nil pass0 (pa_cons (pv 0) (pa_cons (pe_callB (r := rLenM K) call_lenM (by rfl) T.z_len boot_len (pa_cons (pv 1) pa_nil)) pa_nil))) (fun _ _ => rfl)))), ?_⟩
    have E0 := Ext.refl G0
    have hm0 : (Option.bind (m_law_draw bag_here1 (things1.length : Int)) fun (r1, bag_here2) =>
  Option.bind (getM things1 r1) fun x1 =>
  some (x1, bag_here2)) = some res := hm
    refine gRet ?_
    refine gOp ?_
    refine gV rfl ?_
    refine gCall ?_
    refine gCons' ?_
    refine gV rfl ?_
    refine gCons' ?_
    refine gCB ?_
    refine gCons' ?_
    refine gV rfl ?_
    refine gNil' ?_
    refine q_lenL (y := V.non) S0 (rM_L (K := K) h2) ?_
    refine gNil' ?_
    obtain ⟨⟨r1, bag_here2⟩, hq1, hm1⟩ := bindS hm0
    dsimp only at hm1
    refine ⟨G0, (O), a1, w1, bag_here1, (things1.length : Int), rfl, S0, h1, (r1, bag_here2), hq1, fun G1 H1 w2 e1 S1 h3 => ?_⟩
    have h4 := R.up e1 h2
    have E1 := E0.trans e1
    obtain ⟨x1, hq2, hm2⟩ := bindS hm1
    refine q_ixL S1 (rM_L (K := K) h4) hq2 (fun v2 h5 => ?_)
    obtain rfl := (show v2 = (V.str (e_T x1)) from h5)
    cases hm2
    exact q G1 H1 w2 E1 S1 h3
end
end Mr

set_option Elab.async false
set_option linter.all false
set_option maxRecDepth 100000
set_option maxHeartbeats 4000000
set_option synthInstance.maxSize 4000
set_option synthInstance.maxHeartbeats 400000
namespace Mr
open PySem PySem.Spec PyProof.Rows L2 GFr
section
variable {P : Program} {w : World} {K : PySem.W.Frag} {mg : Str → Option Value} {base : Heap}
theorem ok_law_one__1 (T : Tx K mg) : FnOk P w K mg base CX0 2 (He.fAd K ("_law_one", none)) T.fd_law_one ["_law_bag_here", "_law_things"] (sp_law_one__1 K) := by
  have G_law_draw := ok_law_draw (P := P) (w := w) (base := base) T
  refine T.F_law_one.ok sc_law_one (fun vs H Q E h => ?_) (fun cdv A outer s H0 vs Q E hr h => ?_)
  · obtain ⟨G, O, a1, w1, bag_here1, v1, things1, rfl, _⟩ := h
    rfl
  · obtain ⟨G0, O, a1, w1, bag_here1, v1, things1, rfl, S0, h1, h2, res, hm, q⟩ := h
    refine ⟨_, PSs.nox (pss_one (ps_ret (pe_ix ix_list (pv 1) (pe_call G_law_draw (hr.mono (by decide)) (by rfl) T.g_law_draw T.F_law_draw.kp T.b_law_draw .nil pass0 (pa_cons (pv 0) (pa_cons (pe_callB (r := rLenM K) call_lenM (by rfl) T.z_len boot_len (pa_cons (pv 1) pa_nil)) pa_nil))) (fun _ _ => rfl)))), ?_⟩
    have E0 := Ext.refl G0
    have hm0 : (Option.bind (m_law_draw bag_here1 (things1.length : Int)) fun (r1, bag_here2) =>
  Option.bind (getM things1 r1) fun x1 =>
  some (x1, bag_here2)) = some res := hm
    refine gRet ?_
    refine gOp ?_
    refine gV rfl ?_
    refine gCall ?_
    refine gCons' ?_
    refine gV rfl ?_
    refine gCons' ?_
    refine gCB ?_
    refine gCons' ?_
    refine gV rfl ?_
    refine gNil' ?_
    refine q_lenL (y := V.non) S0 (rM_L (K := K) h2) ?_
    refine gNil' ?_
    obtain ⟨⟨r1, bag_here2⟩, hq1, hm1⟩ := bindS hm0
    dsimp only at hm1
    refine ⟨G0, (O), a1, w1, bag_here1, (things1.length : Int), rfl, S0, h1, (r1, bag_here2), hq1, fun G1 H1 w2 e1 S1 h3 => ?_⟩
    have h4 := R.up e1 h2
    have E1 := E0.trans e1
    obtain ⟨x1, hq2, hm2⟩ := bindS hm1
    refine q_ixL S1 (rM_L (K := K) h4) hq2 (fun v2 h5 => ?_)
    cases hm2
    exact q v2 G1 H1 w2 E1 S1 h5 h3
end
end Mr

set_option Elab.async false
set_option linter.all false
set_option maxRecDepth 100000
set_option maxHeartbeats 4000000
set_option synthInstance.maxSize 4000
set_option synthInstance.maxHeartbeats 400000
namespace Mr
open PySem PySem.Spec PyProof.Rows L2 GFr
section
variable {P : Program} {w : World} {K : PySem.W.Frag} {mg : Str → Option Value} {base : Heap}
theorem sc_law_number : FnScope ["_law_thing"] ["_law_thing"] (defScope s_law_number) := ⟨rfl, rfl, rfl, by decide +kernel, rfl, by decide +kernel, by decide +kernel⟩
theorem ok_law_number (T : Tx K mg) : FnOk P w K mg base CX0 1 (He.fAd K ("_law_number", none)) T.fd_law_number ["_law_thing"] (sp_law_number K) := by
  refine T.F_law_number.ok sc_law_number (fun vs H Q E h => ?_) (fun cdv A outer s H0 vs Q E hr h => ?_)
  · obtain ⟨G, O, thing1, rfl, _⟩ := h
    rfl
  · obtain ⟨G0, O, thing1, rfl, S0, res, hm, q⟩ := h
    refine ⟨_, PSs.nox (pss_one (ps_ret (pe_cut (pe_and (pe_callB (r := rIsi K) call_isi (by rfl) T.z_isinstance boot_isinstance (pa_cons (pv 0) (pa_cons (pe_bltn (v := .ty "int") (by rfl) T.z_int boot_int rfl) pa_nil))) (pe_one (pe_not (pe_callB (r := rIsi K) call_isi (by rfl) T.z_isinstance boot_isinstance (pa_cons (pv 0) (pa_cons (pe_bltn (v := .ty "bool") (by rfl) T.z_bool boot_bool rfl) pa_nil))))))))), ?_⟩
    have E0 := Ext.refl G0
    have hm0 : (some (true && (!false))) = some res := hm
    refine gRet ?_
    refine gCE (fun (b : V) (H : Hp) => ∃ (G : Hp), Ext G0 G ∧ Sub G (O) H ∧ b = V.bl (true && (!false))) ?_ ?_
    · skip
      refine gAndV ?_
      refine gCB ?_
      refine gCons' ?_
      refine gV rfl ?_
      refine gCons' ?_
      refine gC ?_
      refine gNil' ?_
      refine q_isi (ty_I _) (by decide +kernel : kitB "int" "int" = some true) ?_
      refine ⟨true, rfl, ?_⟩
      refine ite2 (fun c1 => ?_) (fun c1 => ?_)
      · skip
        refine gNotV ?_
        refine gCB ?_
        refine gCons' ?_
        refine gV rfl ?_
        refine gCons' ?_
        refine gC ?_
        refine gNil' ?_
        refine q_isi (ty_I _) (by decide +kernel : kitB "int" "bool" = some false) ?_
        refine ⟨_, rfl, ?_⟩
        exact ⟨G0, (Ext.refl _), S0, congrArg V.bl (by rw [c1, Bool.true_and])⟩
      · skip
        exact ⟨G0, (Ext.refl _), S0, congrArg V.bl (by rw [ne_false c1, Bool.false_and])⟩
    · intro b1 H1 hJ
      obtain ⟨G1, e1, S1, rfl⟩ := hJ
      have E1 := E0.trans e1
      cases hm0
      exact q G1 H1 E1 S1
end
end Mr

set_option Elab.async false
set_option linter.all false
set_option maxRecDepth 100000
set_option maxHeartbeats 4000000
set_option synthInstance.maxSize 4000
set_option synthInstance.maxHeartbeats 400000
namespace Mr
open PySem PySem.Spec PyProof.Rows L2 GFr
section
variable {P : Program} {w : World} {K : PySem.W.Frag} {mg : Str → Option Value} {base : Heap}
theorem sc_law_box : FnScope ["_law_bag_here", "_law_wide", "_law_left", "_law_top", "_law_right", "_law_foot"] ["_law_bag_here", "_law_wide"] (defScope s_law_box) := ⟨rfl, rfl, rfl, by decide +kernel, rfl, by decide +kernel, by decide +kernel⟩
theorem ok_law_box (T : Tx K mg) : FnOk P w K mg base CX0 2 (He.fAd K ("_law_box", none)) T.fd_law_box ["_law_bag_here", "_law_wide"] (sp_law_box K) := by
  have G_law_draw := ok_law_draw (P := P) (w := w) (base := base) T
  refine T.F_law_box.ok sc_law_box (fun vs H Q E h => ?_) (fun cdv A outer s H0 vs Q E hr h => ?_)
  · obtain ⟨G, O, a1, w1, bag_here1, wide1, rfl, _⟩ := h
    rfl
  · obtain ⟨G0, O, a1, w1, bag_here1, wide1, rfl, S0, h1, res, hm, q⟩ := h
    refine ⟨_, PSs.nox (pss_cons (ps_par (i := 2) (j := 3) (by rfl) sc_law_box.nd rfl rfl (by decide) rfl rfl (pa_cons (pe_call G_law_draw (hr.mono (by decide)) (by rfl) T.g_law_draw T.F_law_draw.kp T.b_law_draw .nil pass0 (pa_cons (pv 0) (pa_cons (pv 1) pa_nil))) (pa_cons (pe_call G_law_draw (hr.mono (by decide)) (by rfl) T.g_law_draw T.F_law_draw.kp T.b_law_draw .nil pass0 (pa_cons (pv 0) (pa_cons pe_int pa_nil))) pa_nil)) (by rfl))
      (pss_cons (ps_set (i := 4) sc_law_box.nd rfl (.inl rfl) (pe_op op_add (pe_op op_add (pv 2) pe_int) (pe_call G_law_draw (hr.mono (by decide)) (by rfl) T.g_law_draw T.F_law_draw.kp T.b_law_draw .nil pass0 (pa_cons (pv 0) (pa_cons (pe_op op_sub (pv 1) (pv 2)) pa_nil)))))
      (pss_cons (ps_set (i := 5) sc_law_box.nd rfl (.inl rfl) (pe_op op_add (pe_op op_add (pv 3) pe_int) (pe_call G_law_draw (hr.mono (by decide)) (by rfl) T.g_law_draw T.F_law_draw.kp T.b_law_draw .nil pass0 (pa_cons (pv 0) (pa_cons (pe_op op_sub pe_int (pv 3)) pa_nil)))))
      (pss_one (ps_ret (pe_lst (pa_cons (pe_tup (pa_cons (pv 2) (pa_cons (pv 3) pa_nil))) (pa_cons (pe_tup (pa_cons (pv 4) (pa_cons (pv 3) pa_nil))) (pa_cons (pe_tup (pa_cons (pv 4) (pa_cons (pv 5) pa_nil))) (pa_cons (pe_tup (pa_cons (pv 2) (pa_cons (pv 5) pa_nil))) pa_nil)))))))))), ?_⟩
    have E0 := Ext.refl G0
    have hm0 : (Option.bind (m_law_draw bag_here1 wide1) fun (r1, bag_here2) =>
  Option.bind (m_law_draw bag_here2 (4 : Int)) fun (r2, bag_here3) =>
  Option.bind (m_law_draw bag_here3 (wide1 - r1)) fun (r3, bag_here4) =>
  Option.bind (m_law_draw bag_here4 ((4 : Int) - r2)) fun (r4, bag_here5) =>
  some (([(r1, r2), (((r1 + (1 : Int)) + r3), r2), (((r1 + (1 : Int)) + r3), ((r2 + (1 : Int)) + r4)), (r1, ((r2 + (1 : Int)) + r4))] : List (Int × Int)), bag_here5)) = some res := hm
    refine gS_Par ?_
    refine gCons' ?_
    refine gCall ?_
    refine gCons' ?_
    refine gV rfl ?_
    refine gCons' ?_
    refine gV rfl ?_
    refine gNil' ?_
    obtain ⟨⟨r1, bag_here2⟩, hq1, hm1⟩ := bindS hm0
    dsimp only at hm1
    refine ⟨G0, (O), a1, w1, bag_here1, wide1, rfl, S0, h1, (r1, bag_here2), hq1, fun G1 H1 w2 e1 S1 h2 => ?_⟩
    have E1 := E0.trans e1
    refine gCons' ?_
    refine gCall ?_
    refine gCons' ?_
    refine gV rfl ?_
    refine gCons' ?_
    refine gC ?_
    refine gNil' ?_
    obtain ⟨⟨r2, bag_here3⟩, hq2, hm2⟩ := bindS hm1
    dsimp only at hm2
    refine ⟨G1, (O), a1, w2, bag_here2, (4 : Int), rfl, S1, h2, (r2, bag_here3), hq2, fun G2 H2 w3 e2 S2 h3 => ?_⟩
    have E2 := E1.trans e2
    refine gNil' ?_
    refine ⟨_, _, rfl, ?_⟩
    refine gS_AsgN ?_
    refine gOp ?_
    refine gOp ?_
    refine gV rfl ?_
    refine gC ?_
    refine ⟨_, _, rfl, rfl, ?_⟩
    refine gCall ?_
    refine gCons' ?_
    refine gV rfl ?_
    refine gCons' ?_
    refine gOp ?_
    refine gV rfl ?_
    refine gV rfl ?_
    refine ⟨_, _, rfl, rfl, ?_⟩
    refine gNil' ?_
    obtain ⟨⟨r3, bag_here4⟩, hq3, hm3⟩ := bindS hm2
    dsimp only at hm3
    refine ⟨G2, (O), a1, w3, bag_here3, (wide1 - r1), rfl, S2, h3, (r3, bag_here4), hq3, fun G3 H3 w4 e3 S3 h4 => ?_⟩
    have E3 := E2.trans e3
    refine ⟨_, _, rfl, rfl, ?_⟩
    refine gS_AsgN ?_
    refine gOp ?_
    refine gOp ?_
    refine gV rfl ?_
    refine gC ?_
    refine ⟨_, _, rfl, rfl, ?_⟩
    refine gCall ?_
    refine gCons' ?_
    refine gV rfl ?_
    refine gCons' ?_
    refine gOp ?_
    refine gC ?_
    refine gV rfl ?_
    refine ⟨_, _, rfl, rfl, ?_⟩
    refine gNil' ?_
    obtain ⟨⟨r4, bag_here5⟩, hq4, hm4⟩ := bindS hm3
    dsimp only at hm4
    refine ⟨G3, (O), a1, w4, bag_here4, ((4 : Int) - r2), rfl, S3, h4, (r4, bag_here5), hq4, fun G4 H4 w5 e4 S4 h5 => ?_⟩
    have E4 := E3.trans e4
    refine ⟨_, _, rfl, rfl, ?_⟩
    refine gRet ?_
    refine gLst ?_
    refine gCons' ?_
    refine gTup' ?_
    refine gCons' ?_
    refine gV rfl ?_
    refine gCons' ?_
    refine gV rfl ?_
    refine gNil' ?_
    refine q_tup2 (K := K) S4 (show R.rel rInt G4 (V.int r1) r1 from rfl) (show R.rel rInt G4 (V.int r2) r2 from rfl) (fun v1 G5 H5 e5 S5 h6 => ?_)
    have h7 := Al.up e5 h5
    have E5 := E4.trans e5
    refine gCons' ?_
    refine gTup' ?_
    refine gCons' ?_
    refine gV rfl ?_
    refine gCons' ?_
    refine gV rfl ?_
    refine gNil' ?_
    refine q_tup2 (K := K) S5 (show R.rel rInt G5 (V.int ((r1 + (1 : Int)) + r3)) ((r1 + (1 : Int)) + r3) from rfl) (show R.rel rInt G5 (V.int r2) r2 from rfl) (fun v2 G6 H6 e6 S6 h8 => ?_)
    have h9 := Al.up e6 h7
    have h10 := R.up e6 h6
    have E6 := E5.trans e6
    refine gCons' ?_
    refine gTup' ?_
    refine gCons' ?_
    refine gV rfl ?_
    refine gCons' ?_
    refine gV rfl ?_
    refine gNil' ?_
    refine q_tup2 (K := K) S6 (show R.rel rInt G6 (V.int ((r1 + (1 : Int)) + r3)) ((r1 + (1 : Int)) + r3) from rfl) (show R.rel rInt G6 (V.int ((r2 + (1 : Int)) + r4)) ((r2 + (1 : Int)) + r4) from rfl) (fun v3 G7 H7 e7 S7 h11 => ?_)
    have h12 := Al.up e7 h9
    have h13 := R.up e7 h10
    have h14 := R.up e7 h8
    have E7 := E6.trans e7
    refine gCons' ?_
    refine gTup' ?_
    refine gCons' ?_
    refine gV rfl ?_
    refine gCons' ?_
    refine gV rfl ?_
    refine gNil' ?_
    refine q_tup2 (K := K) S7 (show R.rel rInt G7 (V.int r1) r1 from rfl) (show R.rel rInt G7 (V.int ((r2 + (1 : Int)) + r4)) ((r2 + (1 : Int)) + r4) from rfl) (fun v4 G8 H8 e8 S8 h15 => ?_)
    have h16 := Al.up e8 h12
    have h17 := R.up e8 h13
    have h18 := R.up e8 h14
    have h19 := R.up e8 h11
    have E8 := E7.trans e8
    refine gNil' ?_
    have h20 : Al (rP2 K rInt rInt) G8 [v1, v2, v3, v4] [(r1, r2), (((r1 + (1 : Int)) + r3), r2), (((r1 + (1 : Int)) + r3), ((r2 + (1 : Int)) + r4)), (r1, ((r2 + (1 : Int)) + r4))] := ⟨h17, h18, h19, h15, True.intro⟩
    refine q_lst S8 h20 (by show 4 ≤ 100000; decide) (fun a2 H9 w6 S9 h21 => ?_)
    obtain ⟨G9, e9, S10, h22⟩ := frz_M S9 h21
    have h23 := Al.up e9 h16
    have E9 := E8.trans e9
    cases hm4
    exact q (V.ref a2) G9 H9 w5 E9 S10 h22 h23
end
end Mr

set_option Elab.async false
set_option linter.all false
set_option maxRecDepth 100000
set_option maxHeartbeats 4000000
set_option synthInstance.maxSize 4000
set_option synthInstance.maxHeartbeats 400000
namespace Mr
open PySem PySem.Spec PyProof.Rows L2 GFr
section
variable {P : Program} {w : World} {K : PySem.W.Frag} {mg : Str → Option Value} {base : Heap}
theorem sc_law_outlines : FnScope ["_law_bag_here", "_law_many", "_law_wide", "_law_found", "_law_turn", "_law_rings"] ["_law_bag_here", "_law_many", "_law_wide"] (defScope s_law_outlines) := ⟨rfl, rfl, rfl, by decide +kernel, rfl, by decide +kernel, by decide +kernel⟩
theorem ok_law_outlines (T : Tx K mg) : FnOk P w K mg base CX0 3 (He.fAd K ("_law_outlines", none)) T.fd_law_outlines ["_law_bag_here", "_law_many", "_law_wide"] (sp_law_outlines K) := by
  have G_law_box := ok_law_box (P := P) (w := w) (base := base) T
  have G_law_draw := ok_law_draw (P := P) (w := w) (base := base) T
  refine T.F_law_outlines.ok sc_law_outlines (fun vs H Q E h => ?_) (fun cdv A outer s H0 vs Q E hr h => ?_)
  · obtain ⟨G, O, a1, w1, bag_here1, many1, wide1, rfl, _⟩ := h
    rfl
  · obtain ⟨G0, O, a1, w1, bag_here1, many1, wide1, rfl, S0, h1, res, hm, q⟩ := h
    refine ⟨_, PSs.nox (pss_cons (ps_set (i := 3) sc_law_outlines.nd rfl (.inl rfl) (pe_lst pa_nil))
      (pss_cons (ps_cut (ps_for PassesOwn.never rfl (pi_range1 (by rfl) T.z_range (pa_cons (pv 1) pa_nil)) (pg_name (i := 4) sc_law_outlines.nd rfl (.inl rfl))
      (pss_cons (ps_set (i := 5) sc_law_outlines.nd rfl (.inl rfl) (pe_lst (pa_cons (pe_call G_law_box (hr.mono (by decide)) (by rfl) T.g_law_box T.F_law_box.kp T.b_law_box .nil pass0 (pa_cons (pv 0) (pa_cons (pv 2) pa_nil))) pa_nil)))
      (pss_cons (ps_cut (ps_if (pt_cmpR op_eqI (pe_call G_law_draw (hr.mono (by decide)) (by rfl) T.g_law_draw T.F_law_draw.kp T.b_law_draw .nil pass0 (pa_cons (pv 0) (pa_cons pe_int pa_nil))) pe_int (nomark _)) (pss_one (ps_expr (pe_bm PySem.F.plainAttrs_list PySem.F.slot_list_append PySem.F.type_list_append mt_append (pv 5) (pa_cons (pe_call G_law_box (hr.mono (by decide)) (by rfl) T.g_law_box T.F_law_box.kp T.b_law_box .nil pass0 (pa_cons (pv 0) (pa_cons (pv 2) pa_nil))) pa_nil)))) pss_nil))
      (pss_one (ps_expr (pe_bm PySem.F.plainAttrs_list PySem.F.slot_list_append PySem.F.type_list_append mt_append (pv 3) (pa_cons (pv 5) pa_nil))))))))
      (pss_one (ps_ret (pv 3))))), ?_⟩
    have E0 := Ext.refl G0
    have hm0 : (Option.bind (rngM many1) fun xs1 =>
  Option.bind (folM (m_law_outlines_b1 wide1) xs1 (bag_here1, ([] : List (List (List (Int × Int)))))) fun (bag_here2, found1) =>
  some (found1, bag_here2)) = some res := hm
    refine gS_AsgN ?_
    refine gLst ?_
    refine gNil' ?_
    have h2 : Al (rM (rM (rP2 K rInt rInt))) G0 [] [] := True.intro
    refine q_lst S0 h2 (by show 0 ≤ 100000; decide) (fun a2 H1 w2 S1 h3 => ?_)
    obtain ⟨xs1, hq1, hm1⟩ := bindS hm0
    obtain ⟨⟨bag_here2, found1⟩, hl1, hm2⟩ := bindS hm1
    dsimp only at hm2
    refine gS_CS (fun (σ : L2.St) (H : Hp) => ∃ (G : Hp) (w3 : List V) (w4 : List V) (y1 : Option V) (y2 : Option V), Ext G0 G ∧ Sub G ((a1, HO.lst w3) :: (a2, HO.lst w4) :: O) H ∧ σ = [some (V.ref a1), some (V.int many1), some (V.int wide1), some (V.ref a2), y1, y2] ∧ Al rInt G w3 bag_here2 ∧ Al (rM (rM (rP2 K rInt rInt))) G w4 found1) ?_ ?_
    · skip
      refine gFor ?_
      refine gIR ?_
      refine gCons' ?_
      refine gV rfl ?_
      refine gNil' ?_
      have S2 : Sub G0 ((a1, HO.lst w1) :: (a2, HO.lst w2) :: O) H1 := S1.front 1 rfl rfl
      refine lp_R hq1 (fol_for Empty hl1) (fun (s : (List Int) × (List (List (List (Int × Int))))) (σ : L2.St) (H : Hp) => ∃ (G : Hp) (w3 : List V) (w4 : List V) (y1 : Option V) (y2 : Option V), Ext G0 G ∧ Sub G ((a1, HO.lst w3) :: (a2, HO.lst w4) :: O) H ∧ σ = [some (V.ref a1), some (V.int many1), some (V.int wide1), some (V.ref a2), y1, y2] ∧ Al rInt G w3 s.1 ∧ Al (rM (rM (rP2 K rInt rInt))) G w4 s.2) ⟨G0, w1, w2, _, _, (Ext.refl _), S2, rfl, h1, h3⟩ ?_ ?_
      · intro i1 x1 s1 b1 hb1 hr1 σ1 H2 hI1
        obtain ⟨s2, hb2, hb3⟩ := goF_some hb1
        subst hb3
        obtain ⟨bag_here3, found2⟩ := s1
        obtain ⟨G1, w5, w6, y3, y4, e1, S3, rfl, h5, h6⟩ := hI1
        have E1 := E0.trans e1
        have hm3 : (Option.bind (m_law_box bag_here3 wide1) fun (r1, bag_here4) =>   Option.bind (Option.bind (m_law_draw bag_here4 (2 : Int)) fun (r4, bag_here8) =>   if (decide (r4 = (1 : Int))) then (Option.bind (m_law_box bag_here8 wide1) fun (r5, bag_here9) =>   Option.bind (appM ([r1] : List (List (Int × Int))) r5) fun rings3 =>   some (bag_here9, rings3))   else (some (bag_here8, ([r1] : List (List (Int × Int)))))) fun (bag_here7, rings2) =>   Option.bind (appM found2 rings2) fun found3 =>   some (bag_here7, found3)) = some s2 := hb2
        refine gS_AsgN ?_
        refine gLst ?_
        refine gCons' ?_
        refine gCall ?_
        refine gCons' ?_
        refine gV rfl ?_
        refine gCons' ?_
        refine gV rfl ?_
        refine gNil' ?_
        obtain ⟨⟨r1, bag_here4⟩, hq2, hm4⟩ := bindS hm3
        dsimp only at hm4
        refine ⟨G1, ((a2, HO.lst w6) :: O), a1, w5, bag_here3, wide1, rfl, S3, h5, (r1, bag_here4), hq2, fun v2 G2 H3 w7 e2 S4 h7 h8 => ?_⟩
        have h9 := Al.up e2 h6
        have E2 := E1.trans e2
        refine gNil' ?_
        have h10 : Al (rM (rP2 K rInt rInt)) G2 [v2] [r1] := ⟨h7, True.intro⟩
        refine q_lst S4 h10 (by show 1 ≤ 100000; decide) (fun a3 H4 w8 S5 h11 => ?_)
        obtain ⟨⟨bag_here7, rings2⟩, hq6, hm8⟩ := bindS hm4
        dsimp only at hm8
        refine gS_CS (fun (σ : L2.St) (H : Hp) => ∃ (G : Hp) (w12 : List V) (w13 : List V), Ext G2 G ∧ Sub G ((a1, HO.lst w12) :: (a3, HO.lst w13) :: (a2, HO.lst w6) :: O) H ∧ σ = [some (V.ref a1), some (V.int many1), some (V.int wide1), some (V.ref a2), some (V.int x1), some (V.ref a3)] ∧ Al rInt G w12 bag_here7 ∧ Al (rM (rP2 K rInt rInt)) G w13 rings2) ?_ ?_
        · skip
          refine gIfS ?_
          refine gTest ?_
          refine gOp ?_
          refine gCall ?_
          refine gCons' ?_
          refine gV rfl ?_
          refine gCons' ?_
          refine gC ?_
          refine gNil' ?_
          have S13 : Sub G2 ((a1, HO.lst w7) :: (a3, HO.lst w8) :: (a2, HO.lst w6) :: O) H4 := S5.front 1 rfl rfl
          obtain ⟨⟨r4, bag_here8⟩, hq7, hm9⟩ := bindS hq6
          dsimp only at hm9
          refine ⟨G2, ((a3, HO.lst w8) :: (a2, HO.lst w6) :: O), a1, w7, bag_here4, (2 : Int), rfl, S13, h8, (r4, bag_here8), hq7, fun G5 H8 w14 e5 S14 h20 => ?_⟩
          have h21 := Al.up e5 h9
          have h22 := Al.up e5 h11
          have E5 := E2.trans e5
          refine gC ?_
          refine ⟨_, _, rfl, rfl, ?_⟩
          refine ⟨(decide (r4 = (1 : Int))), rfl, ?_⟩
          refine ite2 (fun c1 => ?_) (fun c1 => ?_)
          · skip
            have hm10 := (if_pos c1).symm.trans hm9
            refine gDrop ?_
            refine gBM ?_
            refine gV rfl ?_
            have S15 : Sub G5 ((a3, HO.lst w8) :: (a1, HO.lst w14) :: (a2, HO.lst w6) :: O) H8 := S14.front 1 rfl rfl
            refine ⟨.inl ⟨rfl, _, .inl (.inl S15.head)⟩, ?_⟩
            refine gCons' ?_
            refine gCall ?_
            refine gCons' ?_
            refine gV rfl ?_
            refine gCons' ?_
            refine gV rfl ?_
            refine gNil' ?_
            have S16 : Sub G5 ((a1, HO.lst w14) :: (a3, HO.lst w8) :: (a2, HO.lst w6) :: O) H8 := S15.front 1 rfl rfl
            obtain ⟨⟨r5, bag_here9⟩, hq8, hm11⟩ := bindS hm10
            dsimp only at hm11
            refine ⟨G5, ((a3, HO.lst w8) :: (a2, HO.lst w6) :: O), a1, w14, bag_here8, wide1, rfl, S16, h20, (r5, bag_here9), hq8, fun v4 G6 H9 w15 e6 S17 h23 h24 => ?_⟩
            have h25 := Al.up e6 h21
            have h26 := Al.up e6 h22
            have E6 := E5.trans e6
            refine gNil' ?_
            obtain ⟨rings3, hq9, hm12⟩ := bindS hm11
            have S18 : Sub G6 ((a3, HO.lst w8) :: (a1, HO.lst w15) :: (a2, HO.lst w6) :: O) H9 := S17.front 1 rfl rfl
            refine q_app S18 h26 (show R.rel (rM (rP2 K rInt rInt)) G6 v4 r5 from h23) hq9 (fun H10 w16 S19 h27 => ?_)
            have S20 : Sub G6 ((a2, HO.lst w6) :: (a3, HO.lst w16) :: (a1, HO.lst w15) :: O) H10 := S19.front 2 rfl rfl
            have S21 : Sub G6 ((a3, HO.lst w16) :: (a2, HO.lst w6) :: (a1, HO.lst w15) :: O) H10 := S20.front 1 rfl rfl
            have S22 : Sub G6 ((a1, HO.lst w15) :: (a3, HO.lst w16) :: (a2, HO.lst w6) :: O) H10 := S21.front 2 rfl rfl
            cases hm12
            exact ⟨G6, w15, w16, (e5.trans e6), S22, rfl, h24, h27⟩
          · skip
            have hm13 := (if_neg c1).symm.trans hm9
            refine gNext ?_
            cases hm13
            exact ⟨G5, w14, w8, e5, S14, rfl, h20, h22⟩
        · intro σ2 H11 hJ1
          obtain ⟨G7, w17, w18, e7, S23, rfl, h28, h29⟩ := hJ1
          have h30 := Al.up e7 h9
          have E7 := E2.trans e7
          refine gDrop ?_
          refine gBM ?_
          refine gV rfl ?_
          have S24 : Sub G7 ((a2, HO.lst w6) :: (a1, HO.lst w17) :: (a3, HO.lst w18) :: O) H11 := S23.front 2 rfl rfl
          refine ⟨.inl ⟨rfl, _, .inl (.inl S24.head)⟩, ?_⟩
          refine gCons' ?_
          refine gV rfl ?_
          refine gNil' ?_
          have S25 : Sub G7 ((a3, HO.lst w18) :: (a2, HO.lst w6) :: (a1, HO.lst w17) :: O) H11 := S24.front 2 rfl rfl
          obtain ⟨G8, e8, S26, h31⟩ := frz_M S25 h29
          have h32 := Al.up e8 h28
          have h33 := Al.up e8 h30
          have E8 := E7.trans e8
          obtain ⟨found3, hq10, hm14⟩ := bindS hm8
          refine q_app S26 h33 (show R.rel (rM (rM (rP2 K rInt rInt))) G8 (V.ref a3) rings2 from h31) hq10 (fun H12 w19 S27 h34 => ?_)
          have S28 : Sub G8 ((a1, HO.lst w17) :: (a2, HO.lst w19) :: O) H12 := S27.front 1 rfl rfl
          cases hm14
          exact ⟨(bag_here7, found3), ⟨G8, w17, w19, _, _, (((e1.trans e2).trans e7).trans e8), S28, rfl, h32, h34⟩, hr1⟩
      · intro s σ H h1 h2
        cases h1
        obtain ⟨G, k1, k2, k3, k4, ie, irest⟩ := h2
        exact ⟨G, k1, k2, k3, k4, (ie), irest⟩
    · intro σ3 H13 hJ2
      obtain ⟨G9, w20, w21, y5, y6, e9, S29, rfl, h35, h36⟩ := hJ2
      have E9 := E0.trans e9
      refine gRet ?_
      refine gV rfl ?_
      have S30 : Sub G9 ((a2, HO.lst w21) :: (a1, HO.lst w20) :: O) H13 := S29.front 1 rfl rfl
      obtain ⟨G10, e10, S31, h37⟩ := frz_M S30 h36
      have h38 := Al.up e10 h35
      have E10 := E9.trans e10
      cases hm2
      exact q (V.ref a2) G10 H13 w20 E10 S31 h37 h38
end
end Mr

set_option Elab.async false
set_option linter.all false
set_option maxRecDepth 100000
set_option maxHeartbeats 4000000
set_option synthInstance.maxSize 4000
set_option synthInstance.maxHeartbeats 400000
namespace Mr
open PySem PySem.Spec PyProof.Rows L2 GFr
section
variable {P : Program} {w : World} {K : PySem.W.Frag} {mg : Str → Option Value} {base : Heap}
theorem sc_law_ink : FnScope ["_law_rings", "_law_found", "_law_y", "_law_cells", "_law_x", "_law_inside", "_law_ring"] ["_law_rings"] (defScope s_law_ink) := ⟨rfl, rfl, rfl, by decide +kernel, rfl, by decide +kernel, by decide +kernel⟩
theorem ok_law_ink (T : Tx K mg) : FnOk P w K mg base CX0 1 (He.fAd K ("_law_ink", none)) T.fd_law_ink ["_law_rings"] (sp_law_ink K) := by
  refine T.F_law_ink.ok sc_law_ink (fun vs H Q E h => ?_) (fun cdv A outer s H0 vs Q E hr h => ?_)
  · obtain ⟨G, O, v1, rings1, rfl, _⟩ := h
    rfl
  · obtain ⟨G0, O, v1, rings1, rfl, S0, h1, res, hm, q⟩ := h
    refine ⟨_, PSs.nox (pss_cons (ps_set (i := 1) sc_law_ink.nd rfl (.inl rfl) (pe_lst pa_nil))
      (pss_cons (ps_cut (ps_for PassesOwn.never rfl (pi_range1 (by rfl) T.z_range (pa_cons pe_int pa_nil)) (pg_name (i := 2) sc_law_ink.nd rfl (.inr rfl))
      (pss_cons (ps_set (i := 3) sc_law_ink.nd rfl (.inl rfl) (pe_strI (b := ([] : Ink)) (by decide +kernel)))
      (pss_cons (ps_cut (ps_for PassesOwn.never rfl (pi_range1 (by rfl) T.z_range (pa_cons pe_int pa_nil)) (pg_name (i := 4) sc_law_ink.nd rfl (.inr rfl))
      (pss_cons (ps_setLc (i := 5) (own := [("_law_ring", 6)]) (g := gName 6) (by rfl) sc_law_ink.nd rfl rfl (sw_true rfl rfl rfl (by decide +kernel)) (pi_list (pv 0)) (blkOk_by (own := [("_law_ring", 6)]) (N := ["_law_rings", "_law_found", "_law_y", "_law_cells", "_law_x", "_law_inside", "_law_ring"]) (sc := defScope s_law_ink) (by decide +kernel)) (fun _ _ _ _ _ => (pg_name (i := 6) sc_law_ink.nd rfl (.inl rfl))) (fun _ _ _ _ _ => (pts_one (pt_cut (PW.pt (pw_and (pt_cut (pt_chain op_le op_lt (pe_ix (ix_tupK (K := K) rfl) (pe_ix (ix_listK (K := K) rfl) (pv 6) pe_int (fun _ _ => rfl)) pe_int (fun _ _ => rfl)) (pv 4) (pe_ix (ix_tupK (K := K) rfl) (pe_ix (ix_listK (K := K) rfl) (pv 6) pe_int (fun _ _ => rfl)) pe_int (fun _ _ => rfl)))) (pw_and1 (pt_cut (pt_chain op_le op_lt (pe_ix (ix_tupK (K := K) rfl) (pe_ix (ix_listK (K := K) rfl) (pv 6) pe_int (fun _ _ => rfl)) pe_int (fun _ _ => rfl)) (pv 2) (pe_ix (ix_tupK (K := K) rfl) (pe_ix (ix_listK (K := K) rfl) (pv 6) pe_int (fun _ _ => rfl)) pe_int (fun _ _ => rfl)))))))))) (fun _ _ _ _ _ => (pv 6)))
      (pss_one (ps_set (i := 3) sc_law_ink.nd rfl (.inl rfl) (pe_op op_addT (pv 3) (pe_cut (pe_ifExp (pt_cmpR (op_neD hr.units) (pv 5) (pe_lst pa_nil) (nomark _)) (pe_strI (b := ([true] : Ink)) (by decide +kernel)) (pe_strI (b := ([false] : Ink)) (by decide +kernel))))))))))
      (pss_one (ps_expr (pe_bm PySem.F.plainAttrs_list PySem.F.slot_list_append PySem.F.type_list_append mt_append (pv 1) (pa_cons (pv 3) pa_nil))))))))
      (pss_one (ps_ret (pe_callTy (r := rTupOf K) call_tupOf (by rfl) T.z_tuple boot_tuple (pa_cons (pv 1) pa_nil)))))), ?_⟩
    have E0 := Ext.refl G0
    have hm0 : (Option.bind (rngM (4 : Int)) fun xs1 =>
  Option.bind (folM (m_law_ink_b1 rings1) xs1 ([] : List Ink)) fun found1 =>
  some found1) = some res := hm
    refine gS_AsgN ?_
    refine gLst ?_
    refine gNil' ?_
    have h2 : Al (rEn e_Ink) G0 [] [] := True.intro
    refine q_lst S0 h2 (by show 0 ≤ 100000; decide) (fun a1 H1 w1 S1 h3 => ?_)
    obtain ⟨xs1, hq1, hm1⟩ := bindS hm0
    obtain ⟨found1, hl1, hm2⟩ := bindS hm1
    refine gS_CS (fun (σ : L2.St) (H : Hp) => ∃ (G : Hp) (w2 : List V) (y1 : Option V) (y2 : Option V) (y3 : Option V) (y4 : Option V) (y5 : Option V), Ext G0 G ∧ Sub G ((a1, HO.lst w2) :: O) H ∧ σ = [some v1, some (V.ref a1), y1, y2, y3, y4, y5] ∧ Al (rEn e_Ink) G w2 found1) ?_ ?_
    · skip
      refine gFor ?_
      refine gIR ?_
      refine gCons' ?_
      refine gC ?_
      refine gNil' ?_
      refine lp_R hq1 (fol_for Empty hl1) (fun (s : (List Ink)) (σ : L2.St) (H : Hp) => ∃ (G : Hp) (w2 : List V) (y1 : Option V) (y2 : Option V) (y3 : Option V) (y4 : Option V) (y5 : Option V), Ext G0 G ∧ Sub G ((a1, HO.lst w2) :: O) H ∧ σ = [some v1, some (V.ref a1), y1, y2, y3, y4, y5] ∧ Al (rEn e_Ink) G w2 s) ⟨G0, w1, _, _, _, _, _, (Ext.refl _), S1, rfl, h3⟩ ?_ ?_
      · intro i1 x1 found2 b1 hb1 hr1 σ1 H2 hI1
        obtain ⟨s2, hb2, hb3⟩ := goF_some hb1
        subst hb3
        obtain ⟨G1, w3, y6, y7, y8, y9, y10, e1, S2, rfl, h5⟩ := hI1
        have h6 := R.up e1 h1
        have E1 := E0.trans e1
        have hm3 : (Option.bind (rngM (4 : Int)) fun xs2 =>   Option.bind (folM (m_law_ink_b2 rings1 x1) xs2 ([] : Ink)) fun cells1 =>   Option.bind (appM found2 cells1) fun found3 =>   some found3) = some s2 := hb2
        refine gS_AsgN ?_
        refine gC ?_
        obtain ⟨xs2, hq2, hm4⟩ := bindS hm3
        obtain ⟨cells1, hl2, hm5⟩ := bindS hm4
        refine gS_CS (fun (σ : L2.St) (H : Hp) => ∃ (G : Hp) (y11 : Option V) (y12 : Option V) (y13 : Option V), Ext G1 G ∧ Sub G ((a1, HO.lst w3) :: O) H ∧ σ = [some v1, some (V.ref a1), some (V.int x1), some (V.str (e_Ink cells1)), y11, y12, y13]) ?_ ?_
        · skip
          refine gFor ?_
          refine gIR ?_
          refine gCons' ?_
          refine gC ?_
          refine gNil' ?_
          refine lp_R hq2 (fol_for Empty hl2) (fun (s : Ink) (σ : L2.St) (H : Hp) => ∃ (G : Hp) (y11 : Option V) (y12 : Option V) (y13 : Option V), Ext G1 G ∧ Sub G ((a1, HO.lst w3) :: O) H ∧ σ = [some v1, some (V.ref a1), some (V.int x1), some (V.str (e_Ink s)), y11, y12, y13]) ⟨G1, _, _, _, (Ext.refl _), S2, rfl⟩ ?_ ?_
          · intro i2 x2 cells2 b2 hb4 hr2 σ2 H3 hI2
            obtain ⟨s4, hb5, hb6⟩ := goF_some hb4
            subst hb6
            obtain ⟨G2, y14, y15, y16, e2, S3, rfl⟩ := hI2
            have h8 := R.up e2 h6
            have h9 := Al.up e2 h5
            have E2 := E1.trans e2
            have hm6 : (Option.bind (folM (m_law_ink_c3 x1 x2) rings1 ([] : (List (List (Int × Int))))) fun acc1 =>   Option.bind (catI cells2 (if (!decide (acc1 = ([] : (List (List (Int × Int)))))) then ([true] : Ink) else ([false] : Ink))) fun k11 =>   some k11) = some s4 := hb5
            refine gS_AsgN ?_
            refine gLc ?_
            refine gIL ?_
            refine gV rfl ?_
            obtain ⟨acc1, hq24, hm34⟩ := bindS hm6
            refine lc_L (r := (rM (rP2 K rInt rInt))) S3 (rM_L (K := K) h8) hq24 (fun (D : Addr) (s : (List (List (Int × Int)))) (H : Hp) => ∃ (G : Hp) (w4 : List V), Ext G2 G ∧ Sub G ((D, HO.lst w4) :: (a1, HO.lst w3) :: O) H ∧ Al (rM (rP2 K rInt rInt)) G w4 s) ?_ ?_ ?_ ?_
            · intro D1 nD1
              exact ⟨G2, [], Ext.refl _, S3.newOwn nD1, True.intro⟩
            · intro D s H hI
              obtain ⟨G, k10, ie, iS, _⟩ := hI
              exact ie.trans iS.ext
            · intro D2 i3 x24 acc2 s6 hb7 hr3 v28 H9 hI3 h38
              obtain ⟨G4, w5, e8, S5, h39⟩ := hI3
              have h40 := R.up e8 h8
              have h41 := Al.up e8 h9
              have h42 := R.up e8 (rM_L (K := K) h8)
              have E4 := E2.trans e8
              have h43 := R.up e8 h38
              refine ⟨rfl, ?_⟩
              have hm35 : (Option.bind (Option.bind (getM x24 (0 : Int)) fun x26 =>   Option.bind (if (decide (x26.1 ≤ x2)) then (Option.bind (getM x24 (2 : Int)) fun x29 =>   some (decide (x2 < x29.1))) else some false) fun x27 =>   if x27 then (Option.bind (getM x24 (0 : Int)) fun x31 =>   Option.bind (if (decide (x31.2 ≤ x1)) then (Option.bind (getM x24 (2 : Int)) fun x34 =>   some (decide (x1 < x34.2))) else some false) fun x32 =>   some x32) else some false) fun x35 =>   if x35 then (Option.bind (appM acc2 x24) fun acc3 =>   some acc3)   else (some acc2)) = some s6 := hb7
              obtain ⟨x35, hq35, hm48⟩ := bindS hm35
              refine gCT (fun (b : Bool) (H : Hp) => ∃ (G : Hp), Ext G4 G ∧ Sub G ((D2, HO.lst w5) :: (a1, HO.lst w3) :: O) H ∧ b = x35) ?_ ?_
              · skip
                refine gAnd ?_
                obtain ⟨x37, hq37, hm50⟩ := bindS hq35
                obtain ⟨x38, hq38, hm51⟩ := bindS hm50
                refine gCT (fun (b : Bool) (H : Hp) => H = H9 ∧ b = x38) ?_ ?_
                · skip
                  refine gTest ?_
                  refine gChain ?_
                  refine gOp ?_
                  refine gOp ?_
                  refine gV rfl ?_
                  refine gC ?_
                  refine q_ixL S5 (rM_L (K := K) h43) hq37 (fun v42 h57 => ?_)
                  refine gC ?_
                  refine q_p2_0 S5 h57 (fun v43 h58 => ?_)
                  obtain rfl := (show v43 = (V.int x37.1) from h58)
                  refine gV rfl ?_
                  refine ⟨_, _, rfl, rfl, ⟨(decide (x37.1 ≤ x2)), rfl, ?_⟩⟩
                  refine ite2 (fun c8 => ?_) (fun c8 => ?_)
                  · skip
                    have hm52 := (if_pos c8).symm.trans hq38
                    refine gOp ?_
                    refine gOp ?_
                    refine gV rfl ?_
                    refine gC ?_
                    obtain ⟨x40, hq40, hm54⟩ := bindS hm52
                    refine q_ixL S5 (rM_L (K := K) h43) hq40 (fun v45 h60 => ?_)
                    refine gC ?_
                    refine q_p2_0 S5 h60 (fun v46 h61 => ?_)
                    obtain rfl := (show v46 = (V.int x40.1) from h61)
                    exact ⟨_, _, rfl, rfl, (decide (x2 < x40.1)), rfl, rfl, Option.some.inj hm54⟩
                  · exact ⟨false, rfl, ⟨rfl, Option.some.inj ((if_neg c8).symm.trans hq38)⟩⟩
                · rintro b10 H12 ⟨e11, rfl⟩
                  rw [e11]
                  refine ite2 (fun c9 => ?_) (fun c9 => ?_)
                  · skip
                    have hm55 := (if_pos c9).symm.trans hm51
                    obtain ⟨x42, hq42, hm57⟩ := bindS hm55
                    obtain ⟨x43, hq43, hm58⟩ := bindS hm57
                    refine gCT (fun (b : Bool) (H : Hp) => H = H9 ∧ b = x43) ?_ ?_
                    · skip
                      refine gTest ?_
                      refine gChain ?_
                      refine gOp ?_
                      refine gOp ?_
                      refine gV rfl ?_
                      refine gC ?_
                      refine q_ixL S5 (rM_L (K := K) h43) hq42 (fun v48 h63 => ?_)
                      refine gC ?_
                      refine q_p2_1 S5 h63 (fun v49 h64 => ?_)
                      obtain rfl := (show v49 = (V.int x42.2) from h64)
                      refine gV rfl ?_
                      refine ⟨_, _, rfl, rfl, ⟨(decide (x42.2 ≤ x1)), rfl, ?_⟩⟩
                      refine ite2 (fun c10 => ?_) (fun c10 => ?_)
                      · skip
                        have hm59 := (if_pos c10).symm.trans hq43
                        refine gOp ?_
                        refine gOp ?_
                        refine gV rfl ?_
                        refine gC ?_
                        obtain ⟨x45, hq45, hm61⟩ := bindS hm59
                        refine q_ixL S5 (rM_L (K := K) h43) hq45 (fun v51 h66 => ?_)
                        refine gC ?_
                        refine q_p2_1 S5 h66 (fun v52 h67 => ?_)
                        obtain rfl := (show v52 = (V.int x45.2) from h67)
                        exact ⟨_, _, rfl, rfl, (decide (x1 < x45.2)), rfl, rfl, Option.some.inj hm61⟩
                      · exact ⟨false, rfl, ⟨rfl, Option.some.inj ((if_neg c10).symm.trans hq43)⟩⟩
                    · rintro b11 H13 ⟨e12, rfl⟩
                      rw [e12]
                      cases hm58
                      exact ⟨G4, (Ext.refl _), S5, rfl⟩
                  · skip
                    have hm62 := (if_neg c9).symm.trans hm51
                    cases hm62
                    exact ⟨G4, (Ext.refl _), S5, rfl⟩
              · intro b12 H14 hJ
                obtain ⟨G5, e13, S6, rfl⟩ := hJ
                have h68 := R.up e13 h40
                have h69 := Al.up e13 h41
                have h70 := R.up e13 h43
                have h71 := R.up e13 h42
                have h72 := Al.up e13 h39
                have E5 := E4.trans e13
                refine ite2 (fun c11 => ?_) (fun c11 => ?_)
                · skip
                  have hm63 := (if_pos c11).symm.trans hm48
                  refine gV rfl ?_
                  obtain ⟨acc3, hq46, hm64⟩ := bindS hm63
                  refine q_lcEl S6 h72 (show R.rel (rM (rP2 K rInt rInt)) G5 v28 x24 from h70) hq46 (fun H15 w6 S7 h73 => ?_)
                  cases hm64
                  exact ⟨_, ⟨G5, w6, (e8.trans e13), S7, h73⟩, hr3⟩
                · skip
                  have hm65 := (if_neg c11).symm.trans hm48
                  cases hm65
                  exact ⟨_, ⟨G5, w5, (e8.trans e13), S6, h72⟩, hr3⟩
            · intro D3 H16 hI4
              obtain ⟨G6, w7, e14, S8, h74⟩ := hI4
              have h75 := R.up e14 h8
              have h76 := Al.up e14 h9
              have E6 := E2.trans e14
              refine gAsgN ?_
              refine gOp ?_
              refine gV rfl ?_
              refine gCE (fun (v : V) (H : Hp) => ∃ (G : Hp), Ext G6 G ∧ Sub G ((D3, HO.lst w7) :: (a1, HO.lst w3) :: O) H ∧ v = (V.str (e_Ink (if (!decide (acc1 = ([] : (List (List (Int × Int)))))) then ([true] : Ink) else ([false] : Ink))))) ?_ ?_
              · skip
                refine gIf ?_
                refine gTest ?_
                refine gOp ?_
                refine gV rfl ?_
                refine gLst ?_
                refine gNil' ?_
                refine ⟨sz0, fun p2 np2 => ?_⟩
                have S10 : Sub G6 ((D3, HO.lst w7) :: (a1, HO.lst w3) :: O) (upd H16 p2 (.lst [])) := S8.junk np2
                have h78 := rM_own S10 h74
                refine q_neD (dM (dM (dP2 (dInt (K := K)) (dInt (K := K))))) (by show 5 ≤ 64; decide) h78 (⟨p2, [], rfl, upd_same, True.intro⟩ : R.rel (rM (rM (rP2 K rInt rInt))) (upd H16 p2 (.lst [])) (V.ref p2) []) ((okM (okM (okP2 okI okI))) _) ((okM (okM (okP2 okI okI))) _) ?_
                refine ⟨(!decide (acc1 = ([] : (List (List (Int × Int)))))), rfl, ?_⟩
                refine ite2 (fun c12 => ?_) (fun c12 => ?_)
                · skip
                  refine gC ?_
                  exact ⟨G6, (Ext.refl _), S10, congrArg (fun x : Ink => V.str (e_Ink x)) (if_pos c12).symm⟩
                · skip
                  refine gC ?_
                  exact ⟨G6, (Ext.refl _), S10, congrArg (fun x : Ink => V.str (e_Ink x)) (if_neg c12).symm⟩
              · intro v53 H17 hJ
                obtain ⟨G7, e15, S11, rfl⟩ := hJ
                have h80 := R.up e15 h75
                have h81 := Al.up e15 h76
                have h82 := Al.up e15 h74
                have E7 := E6.trans e15
                obtain ⟨k11, hq47, hm66⟩ := bindS hm34
                refine q_catI hq47 ?_
                have S12 := S11.tail
                cases hm66
                exact ⟨_, ⟨G7, _, _, _, ((e2.trans e14).trans e15), S12, rfl⟩, hr2⟩
          · intro s σ H h1 h2
            cases h1
            obtain ⟨G, k7, k8, k9, ie, irest⟩ := h2
            exact ⟨G, k7, k8, k9, (ie), irest⟩
        · intro σ3 H18 hJ1
          obtain ⟨G8, y17, y18, y19, e16, S13, rfl⟩ := hJ1
          have h83 := R.up e16 h6
          have h84 := Al.up e16 h5
          have E8 := E1.trans e16
          refine gDrop ?_
          refine gBM ?_
          refine gV rfl ?_
          refine ⟨.inl ⟨rfl, _, .inl (.inl S13.head)⟩, ?_⟩
          refine gCons' ?_
          refine gV rfl ?_
          refine gNil' ?_
          obtain ⟨found3, hq48, hm67⟩ := bindS hm5
          refine q_app S13 h84 (show R.rel (rEn e_Ink) G8 (V.str (e_Ink cells1)) cells1 from rfl) hq48 (fun H19 w8 S14 h85 => ?_)
          cases hm67
          exact ⟨_, ⟨G8, w8, _, _, _, _, _, (e1.trans e16), S14, rfl, h85⟩, hr1⟩
      · intro s σ H h1 h2
        cases h1
        obtain ⟨G, k1, k2, k3, k4, k5, k6, ie, irest⟩ := h2
        exact ⟨G, k1, k2, k3, k4, k5, k6, (ie), irest⟩
    · intro σ4 H20 hJ2
      obtain ⟨G9, w9, y20, y21, y22, y23, y24, e17, S15, rfl, h86⟩ := hJ2
      have h87 := R.up e17 h1
      have E9 := E0.trans e17
      refine gRet ?_
      refine gCB ?_
      refine gCons' ?_
      refine gV rfl ?_
      refine gNil' ?_
      refine q_tupO S15 h86 (fun v54 G10 H21 e18 S16 h88 => ?_)
      have h89 := R.up e18 h87
      have h90 := Al.up e18 h86
      have E10 := E9.trans e18
      have S17 := S16.tail
      cases hm2
      exact q v54 G10 H21 E10 S17 h88
end
end Mr

set_option Elab.async false
set_option linter.all false
set_option maxRecDepth 100000
set_option maxHeartbeats 4000000
set_option synthInstance.maxSize 4000
set_option synthInstance.maxHeartbeats 400000
namespace Mr
open PySem PySem.Spec PyProof.Rows L2 GFr
section
variable {P : Program} {w : World} {K : PySem.W.Frag} {mg : Str → Option Value} {base : Heap}
theorem sc_law_step : FnScope ["_law_ink_here", "_law_cells"] ["_law_ink_here"] (defScope s_law_step) := ⟨rfl, rfl, rfl, by decide +kernel, rfl, by decide +kernel, by decide +kernel⟩
theorem ok_law_step (T : Tx K mg) : FnOk P w K mg base CX0 1 (He.fAd K ("_law_step", none)) T.fd_law_step ["_law_ink_here"] (sp_law_step K) := by
  refine T.F_law_step.ok sc_law_step (fun vs H Q E h => ?_) (fun cdv A outer s H0 vs Q E hr h => ?_)
  · obtain ⟨G, O, v1, ink_here1, rfl, _⟩ := h
    rfl
  · obtain ⟨G0, O, v1, ink_here1, rfl, S0, h1, res, hm, q⟩ := h
    refine ⟨_, PSs.nox (pss_one (ps_ret (pe_op op_add (pe_callB (r := rMax K) (cr_max rfl) (by rfl) T.z_max boot_max (pa_cons (pe_lc (own := [("_law_cells", 1)]) (g := gName 1) (by rfl) sc_law_step.nd (pi_tup (pv 0)) (blkOk_by (own := [("_law_cells", 1)]) (N := ["_law_ink_here", "_law_cells"]) (sc := defScope s_law_step) (by decide +kernel)) (fun _ _ _ _ _ => (pg_name (i := 1) sc_law_step.nd rfl (.inl rfl))) (fun _ _ _ _ _ => pts_nil) (fun _ _ _ _ _ => (pe_m1 PySem.F.slot_str_rfind PySem.F.type_str_rfind mt_rfindI (pv 1) (pe_strI (b := ([true] : Ink)) (by decide +kernel))))) pa_nil)) pe_int))), ?_⟩
    have E0 := Ext.refl G0
    have hm0 : (Option.bind (folM (m_law_step_c1) ink_here1 ([] : (List Int))) fun acc1 =>
  Option.bind (maxM acc1) fun x2 =>
  some (x2 + (1 : Int))) = some res := hm
    refine gRet ?_
    refine gOp ?_
    refine gCB ?_
    refine gCons' ?_
    refine gLc ?_
    refine gIT ?_
    refine gV rfl ?_
    obtain ⟨acc1, hq2, hm2⟩ := bindS hm0
    refine lc_T (r := (rEn e_Ink)) S0 h1 hq2 (fun (D : Addr) (s : (List Int)) (H : Hp) => ∃ (G : Hp) (w1 : List V), Ext G0 G ∧ Sub G ((D, HO.lst w1) :: O) H ∧ Al rInt G w1 s) ?_ ?_ ?_ ?_
    · intro D1 nD1
      exact ⟨G0, [], Ext.refl _, S0.newOwn nD1, True.intro⟩
    · intro D s H hI
      obtain ⟨G, k2, ie, iS, _⟩ := hI
      exact ie.trans iS.ext
    · intro D2 i1 x1 acc2 s2 hb1 hr1 v2 H1 hI1 h2
      obtain ⟨G1, w2, e1, S1, h3⟩ := hI1
      have h4 := R.up e1 h1
      have E1 := E0.trans e1
      obtain rfl := (show v2 = (V.str (e_Ink x1)) from h2)
      refine ⟨rfl, ?_⟩
      have hm3 : (Option.bind (rfnM x1) fun k3 =>   Option.bind (appM acc2 k3) fun acc3 =>   some acc3) = some s2 := hb1
      refine gYes ?_
      refine iteT ?_
      refine gM1 ?_
      refine gV rfl ?_
      refine ⟨⟨_, rfl⟩, ?_⟩
      refine gC ?_
      obtain ⟨k3, hq3, hm4⟩ := bindS hm3
      refine q_rfindI hq3 ?_
      obtain ⟨acc3, hq4, hm5⟩ := bindS hm4
      refine q_lcEl S1 h3 (show R.rel rInt G1 (V.int k3) k3 from rfl) hq4 (fun H2 w3 S2 h5 => ?_)
      cases hm5
      exact ⟨_, ⟨G1, w3, e1, S2, h5⟩, hr1⟩
    · intro D3 H3 hI2
      obtain ⟨G2, w4, e2, S3, h6⟩ := hI2
      have h7 := R.up e2 h1
      have E2 := E0.trans e2
      refine gNil' ?_
      obtain ⟨G3, e3, S4, h8⟩ := frz_M S3 h6
      have h9 := R.up e3 h7
      have E3 := E2.trans e3
      obtain ⟨x2, hq5, hm6⟩ := bindS hm2
      refine q_max S4 (rM_L (K := K) h8) hq5 ?_
      refine gC ?_
      refine ⟨_, _, rfl, rfl, ?_⟩
      cases hm6
      exact q G3 H3 E3 S4
end
end Mr

set_option Elab.async false
set_option linter.all false
set_option maxRecDepth 100000
set_option maxHeartbeats 4000000
set_option synthInstance.maxSize 4000
set_option synthInstance.maxHeartbeats 400000
namespace Mr
open PySem PySem.Spec PyProof.Rows L2 GFr
section
variable {P : Program} {w : World} {K : PySem.W.Frag} {mg : Str → Option Value} {base : Heap}
theorem sc_law_gap : FnScope ["_law_left", "_law_right", "_law_apart", "_law_short", "_law_row", "_law_before", "_law_behind", "_law_free"] ["_law_left", "_law_right", "_law_apart"] (defScope s_law_gap) := ⟨rfl, rfl, rfl, by decide +kernel, rfl, by decide +kernel, by decide +kernel⟩
theorem ok_law_gap (T : Tx K mg) : FnOk P w K mg base CX0 2 (He.fAd K ("_law_gap", none)) T.fd_law_gap ["_law_left", "_law_right", "_law_apart"] (sp_law_gap K) := by
  have G_law_step := ok_law_step (P := P) (w := w) (base := base) T
  refine T.F_law_gap.ok sc_law_gap (fun vs H Q E h => ?_) (fun cdv A outer s H0 vs Q E hr h => ?_)
  · obtain ⟨G, O, v1, left1, v2, right1, apart1, rfl, _⟩ := h
    rfl
  · obtain ⟨G0, O, v1, left1, v2, right1, apart1, rfl, S0, h1, h2, res, hm, q⟩ := h
    refine ⟨_, PSs.nox (pss_cons (ps_set (i := 3) sc_law_gap.nd rfl (.inl rfl) (pe_lst (pa_cons pe_int pa_nil)))
      (pss_cons (ps_cut (ps_for PassesOwn.never rfl (pi_range1 (by rfl) T.z_range (pa_cons pe_int pa_nil)) (pg_name (i := 4) sc_law_gap.nd rfl (.inl rfl))
      (pss_cons (ps_par (i := 5) (j := 6) (by rfl) sc_law_gap.nd rfl rfl (by decide) rfl rfl (pa_cons (pe_slice sl_str (pe_ix ix_tup (pv 0) (pv 4) (fun _ _ => rfl)) po_none (po_some (pe_call G_law_step (hr.mono (by decide)) (by rfl) T.g_law_step T.F_law_step.kp T.b_law_step .nil pass0 (pa_cons (pv 0) pa_nil)))) (pa_cons (pe_ix ix_tup (pv 1) (pv 4) (fun _ _ => rfl)) pa_nil)) (by rfl))
      (pss_one (ps_cut (ps_if (pt_cut (PW.pt (pw_and (pt_cmpR op_inS (pe_strI (b := ([true] : Ink)) (by decide +kernel)) (pv 5) (by with_unfolding_all rfl)) (pw_and1 (pt_cmpR op_inS (pe_strI (b := ([true] : Ink)) (by decide +kernel)) (pv 6) (by with_unfolding_all rfl)))))) (pss_cons (ps_set (i := 7) sc_law_gap.nd rfl (.inl rfl) (pe_op op_sub (pe_op op_add (pe_op op_sub (pe_callB (r := rLenS) call_lenS (by rfl) T.z_len boot_len (pa_cons (pv 5) pa_nil)) (pe_callB (r := rLenS) call_lenS (by rfl) T.z_len boot_len (pa_cons (pe_m1 PySem.F.slot_str_rstrip PySem.F.type_str_rstrip mt_rstI (pv 5) (pe_strI (b := ([false] : Ink)) (by decide +kernel))) pa_nil))) (pe_callB (r := rLenS) call_lenS (by rfl) T.z_len boot_len (pa_cons (pv 6) pa_nil))) (pe_callB (r := rLenS) call_lenS (by rfl) T.z_len boot_len (pa_cons (pe_m1 PySem.F.slot_str_lstrip PySem.F.type_str_lstrip mt_lstI (pv 6) (pe_strI (b := ([false] : Ink)) (by decide +kernel))) pa_nil))))
      (pss_one (ps_expr (pe_bm PySem.F.plainAttrs_list PySem.F.slot_list_append PySem.F.type_list_append mt_append (pv 3) (pa_cons (pe_op op_sub (pv 2) (pv 7)) pa_nil))))) pss_nil))))))
      (pss_one (ps_ret (pe_callB (r := rMax K) (cr_max rfl) (by rfl) T.z_max boot_max (pa_cons (pv 3) pa_nil)))))), ?_⟩
    have E0 := Ext.refl G0
    have hm0 : (Option.bind (rngM (4 : Int)) fun xs1 =>
  Option.bind (folM (m_law_gap_b1 left1 right1 apart1) xs1 ([(0 : Int)] : List Int)) fun short1 =>
  Option.bind (maxM short1) fun x4 =>
  some x4) = some res := hm
    refine gS_AsgN ?_
    refine gLst ?_
    refine gCons' ?_
    refine gC ?_
    refine gNil' ?_
    have h3 : Al rInt G0 [(V.int (0 : Int))] [(0 : Int)] := ⟨rfl, True.intro⟩
    refine q_lst S0 h3 (by show 1 ≤ 100000; decide) (fun a1 H1 w1 S1 h4 => ?_)
    obtain ⟨xs1, hq1, hm1⟩ := bindS hm0
    obtain ⟨short1, hl1, hm2⟩ := bindS hm1
    refine gS_CS (fun (σ : L2.St) (H : Hp) => ∃ (G : Hp) (w2 : List V) (y1 : Option V) (y2 : Option V) (y3 : Option V) (y4 : Option V), Ext G0 G ∧ Sub G ((a1, HO.lst w2) :: O) H ∧ σ = [some v1, some v2, some (V.int apart1), some (V.ref a1), y1, y2, y3, y4] ∧ Al rInt G w2 short1) ?_ ?_
    · skip
      refine gFor ?_
      refine gIR ?_
      refine gCons' ?_
      refine gC ?_
      refine gNil' ?_
      refine lp_R hq1 (fol_for Empty hl1) (fun (s : (List Int)) (σ : L2.St) (H : Hp) => ∃ (G : Hp) (w2 : List V) (y1 : Option V) (y2 : Option V) (y3 : Option V) (y4 : Option V), Ext G0 G ∧ Sub G ((a1, HO.lst w2) :: O) H ∧ σ = [some v1, some v2, some (V.int apart1), some (V.ref a1), y1, y2, y3, y4] ∧ Al rInt G w2 s) ⟨G0, w1, _, _, _, _, (Ext.refl _), S1, rfl, h4⟩ ?_ ?_
      · intro i1 x1 short2 b1 hb1 hr1 σ1 H2 hI1
        obtain ⟨s2, hb2, hb3⟩ := goF_some hb1
        subst hb3
        obtain ⟨G1, w3, y5, y6, y7, y8, e1, S2, rfl, h6⟩ := hI1
        have h7 := R.up e1 h1
        have h8 := R.up e1 h2
        have E1 := E0.trans e1
        have hm3 : (Option.bind (getM left1 x1) fun x2 =>   Option.bind (m_law_step left1) fun r1 =>   Option.bind (cutI x2 none (some r1)) fun k6 =>   Option.bind (getM right1 x1) fun x3 =>   Option.bind (if ((decide (true ∈ k6)) && (decide (true ∈ x3))) then (Option.bind (lenI k6) fun k13 =>   Option.bind (rstM k6) fun k14 =>   Option.bind (lenI k14) fun k15 =>   Option.bind (lenI x3) fun k16 =>   Option.bind (lstM x3) fun k17 =>   Option.bind (lenI k17) fun k18 =>   Option.bind (appM short2 (apart1 - (((k13 - k15) + k16) - k18))) fun short5 =>   some short5)   else (some short2)) fun short4 =>   some short4) = some s2 := hb2
        refine gS_Par ?_
        refine gCons' ?_
        refine gSl ?_
        refine gOp ?_
        refine gV rfl ?_
        refine gV rfl ?_
        obtain ⟨x2, hq2, hm4⟩ := bindS hm3
        refine q_ixT S2 h7 hq2 (fun v4 h9 => ?_)
        obtain rfl := (show v4 = (V.str (e_Ink x2)) from h9)
        refine gNoPart ?_
        refine gPart ?_
        refine gCall ?_
        refine gCons' ?_
        refine gV rfl ?_
        refine gNil' ?_
        obtain ⟨r1, hq3, hm5⟩ := bindS hm4
        refine ⟨G1, ((a1, HO.lst w3) :: O), v1, left1, rfl, S2, h7, r1, hq3, fun G2 H3 e2 S3 => ?_⟩
        have h10 := R.up e2 h7
        have h11 := R.up e2 h8
        have h12 := Al.up e2 h6
        have E2 := E1.trans e2
        refine ⟨_, rfl, ?_⟩
        obtain ⟨k6, hq4, hm6⟩ := bindS hm5
        refine q_slI hq4 ?_
        refine gCons' ?_
        refine gOp ?_
        refine gV rfl ?_
        refine gV rfl ?_
        obtain ⟨x3, hq5, hm7⟩ := bindS hm6
        refine q_ixT S3 h11 hq5 (fun v5 h13 => ?_)
        obtain rfl := (show v5 = (V.str (e_Ink x3)) from h13)
        refine gNil' ?_
        refine ⟨_, _, rfl, ?_⟩
        obtain ⟨short4, hq13, hm15⟩ := bindS hm7
        refine gCS (fun (σ : L2.St) (H : Hp) => ∃ (G : Hp) (w5 : List V) (y9 : Option V), Ext G2 G ∧ Sub G ((a1, HO.lst w5) :: O) H ∧ σ = [some v1, some v2, some (V.int apart1), some (V.ref a1), some (V.int x1), some (V.str (e_Ink k6)), some (V.str (e_Ink x3)), y9] ∧ Al rInt G w5 short4) ?_ ?_
        · skip
          refine gIfS ?_
          refine gCT (fun (b : Bool) (H : Hp) => ∃ (G : Hp), Ext G2 G ∧ Sub G ((a1, HO.lst w3) :: O) H ∧ b = ((decide (true ∈ k6)) && (decide (true ∈ x3)))) ?_ ?_
          · skip
            refine gAnd ?_
            refine gTest ?_
            refine gOp ?_
            refine gC ?_
            refine gV rfl ?_
            refine q_inI ?_
            refine ⟨(decide (true ∈ k6)), rfl, ?_⟩
            refine ite2 (fun c2 => ?_) (fun c2 => ?_)
            · skip
              refine gTest ?_
              refine gOp ?_
              refine gC ?_
              refine gV rfl ?_
              refine q_inI ?_
              refine ⟨(decide (true ∈ x3)), rfl, ?_⟩
              exact ⟨G2, (Ext.refl _), S3, (by rw [c2, Bool.true_and])⟩
            · skip
              exact ⟨G2, (Ext.refl _), S3, (by rw [ne_false c2, Bool.false_and])⟩
          · intro b3 H6 hJ
            obtain ⟨G4, e4, S6, rfl⟩ := hJ
            have h18 := R.up e4 h10
            have h19 := R.up e4 h11
            have h20 := Al.up e4 h12
            have E4 := E2.trans e4
            refine ite2 (fun c3 => ?_) (fun c3 => ?_)
            · skip
              have hm16 := (if_pos c3).symm.trans hq13
              refine gS_AsgN ?_
              refine gOp ?_
              refine gOp ?_
              refine gOp ?_
              refine gCB ?_
              refine gCons' ?_
              refine gV rfl ?_
              refine gNil' ?_
              obtain ⟨k13, hq14, hm17⟩ := bindS hm16
              refine q_lenI hq14 ?_
              refine gCB ?_
              refine gCons' ?_
              refine gM1 ?_
              refine gV rfl ?_
              refine ⟨⟨_, rfl⟩, ?_⟩
              refine gC ?_
              obtain ⟨k14, hq15, hm18⟩ := bindS hm17
              refine q_rstI hq15 ?_
              refine gNil' ?_
              obtain ⟨k15, hq16, hm19⟩ := bindS hm18
              refine q_lenI hq16 ?_
              refine ⟨_, _, rfl, rfl, ?_⟩
              refine gCB ?_
              refine gCons' ?_
              refine gV rfl ?_
              refine gNil' ?_
              obtain ⟨k16, hq17, hm20⟩ := bindS hm19
              refine q_lenI hq17 ?_
              refine ⟨_, _, rfl, rfl, ?_⟩
              refine gCB ?_
              refine gCons' ?_
              refine gM1 ?_
              refine gV rfl ?_
              refine ⟨⟨_, rfl⟩, ?_⟩
              refine gC ?_
              obtain ⟨k17, hq18, hm21⟩ := bindS hm20
              refine q_lstI hq18 ?_
              refine gNil' ?_
              obtain ⟨k18, hq19, hm22⟩ := bindS hm21
              refine q_lenI hq19 ?_
              refine ⟨_, _, rfl, rfl, ?_⟩
              refine gDrop ?_
              refine gBM ?_
              refine gV rfl ?_
              refine ⟨.inl ⟨rfl, _, .inl (.inl S6.head)⟩, ?_⟩
              refine gCons' ?_
              refine gOp ?_
              refine gV rfl ?_
              refine gV rfl ?_
              refine ⟨_, _, rfl, rfl, ?_⟩
              refine gNil' ?_
              obtain ⟨short5, hq20, hm23⟩ := bindS hm22
              refine q_app S6 h20 (show R.rel rInt G4 (V.int (apart1 - (((k13 - k15) + k16) - k18))) (apart1 - (((k13 - k15) + k16) - k18)) from rfl) hq20 (fun H7 w6 S7 h21 => ?_)
              cases hm23
              exact ⟨G4, w6, _, e4, S7, rfl, h21⟩
            · skip
              have hm24 := (if_neg c3).symm.trans hq13
              refine gNext ?_
              cases hm24
              exact ⟨G4, w3, _, e4, S6, rfl, h20⟩
        · intro σ2 H8 hJ1
          obtain ⟨G5, w7, y10, e5, S8, rfl, h22⟩ := hJ1
          have h23 := R.up e5 h10
          have h24 := R.up e5 h11
          have E5 := E2.trans e5
          cases hm15
          exact ⟨_, ⟨G5, w7, _, _, _, _, ((e1.trans e2).trans e5), S8, rfl, h22⟩, hr1⟩
      · intro s σ H h1 h2
        cases h1
        obtain ⟨G, k1, k2, k3, k4, k5, ie, irest⟩ := h2
        exact ⟨G, k1, k2, k3, k4, k5, (ie), irest⟩
    · intro σ3 H9 hJ2
      obtain ⟨G6, w8, y11, y12, y13, y14, e6, S9, rfl, h25⟩ := hJ2
      have h26 := R.up e6 h1
      have h27 := R.up e6 h2
      have E6 := E0.trans e6
      refine gRet ?_
      refine gCB ?_
      refine gCons' ?_
      refine gV rfl ?_
      refine gNil' ?_
      obtain ⟨G7, e7, S10, h28⟩ := frz_M S9 h25
      have h29 := R.up e7 h26
      have h30 := R.up e7 h27
      have E7 := E6.trans e7
      obtain ⟨x4, hq21, hm25⟩ := bindS hm2
      refine q_max S10 (rM_L (K := K) h28) hq21 ?_
      cases hm25
      exact q G7 H9 E7 S10
end
end Mr

set_option Elab.async false
set_option linter.all false
set_option maxRecDepth 100000
set_option maxHeartbeats 4000000
set_option synthInstance.maxSize 4000
set_option synthInstance.maxHeartbeats 400000
namespace Mr
open PySem PySem.Spec PyProof.Rows L2 GFr
section
variable {P : Program} {w : World} {K : PySem.W.Frag} {mg : Str → Option Value} {base : Heap}
theorem sc_law_table : FnScope ["_law_inks", "_law_apart", "_law_right", "_law_left"] ["_law_inks", "_law_apart"] (defScope s_law_table) := ⟨rfl, rfl, rfl, by decide +kernel, rfl, by decide +kernel, by decide +kernel⟩
theorem ok_law_table (T : Tx K mg) : FnOk P w K mg base CX0 3 (He.fAd K ("_law_table", none)) T.fd_law_table ["_law_inks", "_law_apart"] (sp_law_table K) := by
  have G_law_gap := ok_law_gap (P := P) (w := w) (base := base) T
  refine T.F_law_table.ok sc_law_table (fun vs H Q E h => ?_) (fun cdv A outer s H0 vs Q E hr h => ?_)
  · obtain ⟨G, O, v1, inks1, apart1, rfl, _⟩ := h
    rfl
  · obtain ⟨G0, O, v1, inks1, apart1, rfl, S0, h1, res, hm, q⟩ := h
    refine ⟨_, PSs.nox (pss_one (ps_ret (pe_lc (own := [("_law_left", 3)]) (g := gName 3) (by rfl) sc_law_table.nd (pi_list (pv 0)) (blkOk_by (own := [("_law_left", 3)]) (N := ["_law_inks", "_law_apart", "_law_right", "_law_left"]) (sc := defScope s_law_table) (by decide +kernel)) (fun _ _ _ _ _ => (pg_name (i := 3) sc_law_table.nd rfl (.inr rfl))) (fun _ _ _ _ _ => pts_nil) (fun _ _ _ _ _ => (pe_lc (own := [("_law_right", 2)]) (g := gName 2) (by rfl) sc_law_table.nd (pi_listK (K := K) rfl (pv 0)) (blkOk_by (own := [("_law_right", 2)]) (N := ["_law_inks", "_law_apart", "_law_right", "_law_left"]) (sc := _) (by kernel_rfl)) (fun _ _ _ _ _ => (pg_name (i := 2) sc_law_table.nd rfl (.inl rfl))) (fun _ _ _ _ _ => pts_nil) (fun _ _ _ _ _ => (pe_call G_law_gap (hr.mono (by decide)) (by rfl) T.g_law_gap T.F_law_gap.kp T.b_law_gap .nil pass0 (pa_cons (pv 3) (pa_cons (pv 2) (pa_cons (pv 1) pa_nil)))))))))), ?_⟩
    have E0 := Ext.refl G0
    have hm0 : (Option.bind (folM (m_law_table_c1 inks1 apart1) inks1 ([] : (List (List Int)))) fun acc4 =>
  some acc4) = some res := hm
    refine gRet ?_
    refine gLc ?_
    refine gIL ?_
    refine gV rfl ?_
    obtain ⟨acc4, hq5, hm6⟩ := bindS hm0
    refine lc_L (r := (rT K (rEn e_Ink))) S0 (rM_L (K := K) h1) hq5 (fun (D : Addr) (s : (List (List Int))) (H : Hp) => ∃ (G : Hp) (w5 : List V), Ext G0 G ∧ Sub G ((D, HO.lst w5) :: O) H ∧ Al (rM rInt) G w5 s) ?_ ?_ ?_ ?_
    · intro D4 nD2
      exact ⟨G0, [], Ext.refl _, S0.newOwn nD2, True.intro⟩
    · intro D s H hI
      obtain ⟨G, k2, ie, iS, _⟩ := hI
      exact ie.trans iS.ext
    · intro D5 i2 x2 acc5 s4 hb2 hr2 v3 H6 hI3 h25
      obtain ⟨G5, w6, e5, S6, h26⟩ := hI3
      have h27 := R.up e5 h1
      have h28 := R.up e5 (rM_L (K := K) h1)
      have E5 := E0.trans e5
      have h29 := R.up e5 h25
      refine ⟨rfl, ?_⟩
      have hm7 : (Option.bind (folM (m_law_table_c2 apart1 x2) inks1 ([] : (List Int))) fun acc6 =>   Option.bind (appM acc5 acc6) fun acc9 =>   some acc9) = some s4 := hb2
      refine gYes ?_
      refine iteT ?_
      refine gLc ?_
      refine gIL ?_
      refine gV rfl ?_
      obtain ⟨acc6, hq7, hm9⟩ := bindS hm7
      refine lc_L (r := (rT K (rEn e_Ink))) S6 (rM_L (K := K) h27) hq7 (fun (D : Addr) (s : (List Int)) (H : Hp) => ∃ (G : Hp) (w7 : List V), Ext G5 G ∧ Sub G ((D, HO.lst w7) :: (D5, HO.lst w6) :: O) H ∧ Al rInt G w7 s) ?_ ?_ ?_ ?_
      · intro D6 nD3
        exact ⟨G5, [], Ext.refl _, S6.newOwn nD3, True.intro⟩
      · intro D s H hI
        obtain ⟨G, k3, ie, iS, _⟩ := hI
        exact ie.trans iS.ext
      · intro D7 i3 x3 acc7 s6 hb3 hr3 v4 H8 hI4 h36
        obtain ⟨G7, w8, e7, S8, h37⟩ := hI4
        have h38 := R.up e7 h27
        have h39 := R.up e7 h29
        have h40 := R.up e7 h28
        have h41 := Al.up e7 h26
        have h42 := R.up e7 (rM_L (K := K) h27)
        have E7 := E5.trans e7
        have h43 := R.up e7 h36
        refine ⟨rfl, ?_⟩
        have hm10 : (Option.bind (m_law_gap x2 x3 apart1) fun r4 =>   Option.bind (appM acc7 r4) fun acc8 =>   some acc8) = some s6 := hb3
        refine gYes ?_
        refine iteT ?_
        refine gCall ?_
        refine gCons' ?_
        refine gV rfl ?_
        refine gCons' ?_
        refine gV rfl ?_
        refine gCons' ?_
        refine gV rfl ?_
        refine gNil' ?_
        obtain ⟨r4, hq8, hm11⟩ := bindS hm10
        refine ⟨G7, ((D7, HO.lst w8) :: (D5, HO.lst w6) :: O), v3, x2, v4, x3, apart1, rfl, S8, h39, h43, r4, hq8, fun G8 H9 e8 S9 => ?_⟩
        have h44 := R.up e8 h38
        have h45 := R.up e8 h39
        have h46 := R.up e8 h43
        have h47 := R.up e8 h40
        have h48 := Al.up e8 h41
        have h49 := R.up e8 h42
        have h50 := Al.up e8 h37
        have E8 := E7.trans e8
        obtain ⟨acc8, hq9, hm12⟩ := bindS hm11
        refine q_lcEl S9 h50 (show R.rel rInt G8 (V.int r4) r4 from rfl) hq9 (fun H10 w9 S10 h51 => ?_)
        cases hm12
        exact ⟨_, ⟨G8, w9, (e7.trans e8), S10, h51⟩, hr3⟩
      · intro D8 H11 hI5
        obtain ⟨G9, w10, e9, S11, h52⟩ := hI5
        have h53 := R.up e9 h27
        have h54 := R.up e9 h29
        have h55 := R.up e9 h28
        have h56 := Al.up e9 h26
        have E9 := E5.trans e9
        obtain ⟨G10, e10, S12, h57⟩ := frz_M S11 h52
        have h58 := R.up e10 h53
        have h59 := R.up e10 h54
        have h60 := R.up e10 h55
        have h61 := Al.up e10 h56
        have E10 := E9.trans e10
        obtain ⟨acc9, hq10, hm13⟩ := bindS hm9
        refine q_lcEl S12 h61 (show R.rel (rM rInt) G10 (V.ref D8) acc6 from h57) hq10 (fun H12 w11 S13 h62 => ?_)
        cases hm13
        exact ⟨_, ⟨G10, w11, ((e5.trans e9).trans e10), S13, h62⟩, hr2⟩
    · intro D9 H13 hI6
      obtain ⟨G11, w12, e11, S14, h63⟩ := hI6
      have h64 := R.up e11 h1
      have E11 := E0.trans e11
      obtain ⟨G12, e12, S15, h65⟩ := frz_M S14 h63
      have h66 := R.up e12 h64
      have E12 := E11.trans e12
      cases hm6
      exact q (V.ref D9) G12 H13 E12 S15 h65
end
end Mr

set_option Elab.async false
set_option linter.all false
set_option maxRecDepth 100000
set_option maxHeartbeats 4000000
set_option synthInstance.maxSize 4000
set_option synthInstance.maxHeartbeats 400000
namespace Mr
open PySem PySem.Spec PyProof.Rows L2 GFr
section
variable {P : Program} {w : World} {K : PySem.W.Frag} {mg : Str → Option Value} {base : Heap}
theorem sc_law_columns : FnScope ["_law_inks", "_law_table_here", "_law_word_here", "_law_found", "_law_k", "_law_left", "_law_right"] ["_law_inks", "_law_table_here", "_law_word_here"] (defScope s_law_columns) := ⟨rfl, rfl, rfl, by decide +kernel, rfl, by decide +kernel, by decide +kernel⟩
theorem ok_law_columns (T : Tx K mg) : FnOk P w K mg base CX0 2 (He.fAd K ("_law_columns", none)) T.fd_law_columns ["_law_inks", "_law_table_here", "_law_word_here"] (sp_law_columns K) := by
  have G_law_step := ok_law_step (P := P) (w := w) (base := base) T
  refine T.F_law_columns.ok sc_law_columns (fun vs H Q E h => ?_) (fun cdv A outer s H0 vs Q E hr h => ?_)
  · obtain ⟨G, O, v1, inks1, v2, table_here1, word_here1, rfl, _⟩ := h
    rfl
  · obtain ⟨G0, O, v1, inks1, v2, table_here1, word_here1, rfl, S0, h1, h2, res, hm, q⟩ := h
    refine ⟨_, PSs.nox (pss_cons (ps_set (i := 3) sc_law_columns.nd rfl (.inl rfl) (pe_lst (pa_cons pe_int pa_nil)))
      (pss_cons (ps_cut (ps_for PassesOwn.never rfl (pi_range2 (by rfl) T.z_range (pa_cons pe_int (pa_cons (pe_callB (r := rLenS) call_lenS (by rfl) T.z_len boot_len (pa_cons (pv 2) pa_nil)) pa_nil))) (pg_name (i := 4) sc_law_columns.nd rfl (.inl rfl))
      (pss_cons (ps_par (i := 5) (j := 6) (by rfl) sc_law_columns.nd rfl rfl (by decide) rfl rfl (pa_cons (pe_m1 PySem.F.slot_str_index PySem.F.type_str_index mt_sidx (pe_strT (l := ([97, 98, 99, 100] : Wrd)) (by decide +kernel)) (pe_ix ix_str (pv 2) (pe_op op_sub (pv 4) pe_int) (fun _ _ => rfl))) (pa_cons (pe_m1 PySem.F.slot_str_index PySem.F.type_str_index mt_sidx (pe_strT (l := ([97, 98, 99, 100] : Wrd)) (by decide +kernel)) (pe_ix ix_str (pv 2) (pv 4) (fun _ _ => rfl))) pa_nil)) (by rfl))
      (pss_one (ps_expr (pe_bm PySem.F.plainAttrs_list PySem.F.slot_list_append PySem.F.type_list_append mt_append (pv 3) (pa_cons (pe_op op_add (pe_op op_add (pe_ix ix_list (pv 3) (pe_un un_neg pe_int) (fun _ _ => rfl)) (pe_call G_law_step (hr.mono (by decide)) (by rfl) T.g_law_step T.F_law_step.kp T.b_law_step .nil pass0 (pa_cons (pe_ix ix_list (pv 0) (pv 5) (fun _ _ => rfl)) pa_nil))) (pe_ix ix_list (pe_ix ix_list (pv 1) (pv 5) (fun _ _ => rfl)) (pv 6) (fun _ _ => rfl))) pa_nil)))))))
      (pss_one (ps_ret (pv 3))))), ?_⟩
    have E0 := Ext.refl G0
    have hm0 : (Option.bind (lenT word_here1) fun k1 =>
  Option.bind (rng2M (1 : Int) k1) fun xs1 =>
  Option.bind (folM (m_law_columns_b1 inks1 table_here1 word_here1) xs1 ([(0 : Int)] : List Int)) fun found1 =>
  some found1) = some res := hm
    refine gS_AsgN ?_
    refine gLst ?_
    refine gCons' ?_
    refine gC ?_
    refine gNil' ?_
    have h3 : Al rInt G0 [(V.int (0 : Int))] [(0 : Int)] := ⟨rfl, True.intro⟩
    refine q_lst S0 h3 (by show 1 ≤ 100000; decide) (fun a1 H1 w1 S1 h4 => ?_)
    obtain ⟨k1, hq1, hm1⟩ := bindS hm0
    obtain ⟨xs1, hq2, hm2⟩ := bindS hm1
    obtain ⟨found1, hl1, hm3⟩ := bindS hm2
    refine gS_CS (fun (σ : L2.St) (H : Hp) => ∃ (G : Hp) (w2 : List V) (y1 : Option V) (y2 : Option V) (y3 : Option V), Ext G0 G ∧ Sub G ((a1, HO.lst w2) :: O) H ∧ σ = [some v1, some v2, some (V.str (e_T word_here1)), some (V.ref a1), y1, y2, y3] ∧ Al rInt G w2 found1) ?_ ?_
    · skip
      refine gFor ?_
      refine gIR2 ?_
      refine gCons' ?_
      refine gC ?_
      refine gCons' ?_
      refine gCB ?_
      refine gCons' ?_
      refine gV rfl ?_
      refine gNil' ?_
      refine q_lenT' hq1 ?_
      refine gNil' ?_
      refine lp_R2 hq2 (fol_for Empty hl1) (fun (s : (List Int)) (σ : L2.St) (H : Hp) => ∃ (G : Hp) (w2 : List V) (y1 : Option V) (y2 : Option V) (y3 : Option V), Ext G0 G ∧ Sub G ((a1, HO.lst w2) :: O) H ∧ σ = [some v1, some v2, some (V.str (e_T word_here1)), some (V.ref a1), y1, y2, y3] ∧ Al rInt G w2 s) ⟨G0, w1, _, _, _, (Ext.refl _), S1, rfl, h4⟩ ?_ ?_
      · intro i1 x1 found2 b1 hb1 hr1 σ1 H2 hI1
        obtain ⟨s2, hb2, hb3⟩ := goF_some hb1
        subst hb3
        obtain ⟨G1, w3, y4, y5, y6, e1, S2, rfl, h6⟩ := hI1
        have h7 := R.up e1 h1
        have h8 := R.up e1 h2
        have E1 := E0.trans e1
        have hm4 : (Option.bind (getT word_here1 (x1 - (1 : Int))) fun t1 =>   Option.bind (idxA ([97, 98, 99, 100] : Wrd) t1) fun k6 =>   Option.bind (getT word_here1 x1) fun t2 =>   Option.bind (idxA ([97, 98, 99, 100] : Wrd) t2) fun k7 =>   Option.bind (getM found2 (-(1 : Int))) fun x2 =>   Option.bind (getM inks1 k6) fun x3 =>   Option.bind (m_law_step x3) fun r1 =>   Option.bind (getM table_here1 k6) fun x5 =>   Option.bind (getM x5 k7) fun x6 =>   Option.bind (appM found2 ((x2 + r1) + x6)) fun found3 =>   some found3) = some s2 := hb2
        refine gS_Par ?_
        refine gCons' ?_
        refine gM1 ?_
        refine gC ?_
        refine ⟨⟨_, rfl⟩, ?_⟩
        refine gOp ?_
        refine gV rfl ?_
        refine gOp ?_
        refine gV rfl ?_
        refine gC ?_
        refine ⟨_, _, rfl, rfl, ?_⟩
        obtain ⟨t1, hq3, hm5⟩ := bindS hm4
        refine q_ixTx hq3 ?_
        obtain ⟨k6, hq4, hm6⟩ := bindS hm5
        refine q_idxA hq4 ?_
        refine gCons' ?_
        refine gM1 ?_
        refine gC ?_
        refine ⟨⟨_, rfl⟩, ?_⟩
        refine gOp ?_
        refine gV rfl ?_
        refine gV rfl ?_
        obtain ⟨t2, hq5, hm7⟩ := bindS hm6
        refine q_ixTx hq5 ?_
        obtain ⟨k7, hq6, hm8⟩ := bindS hm7
        refine q_idxA hq6 ?_
        refine gNil' ?_
        refine ⟨_, _, rfl, ?_⟩
        refine gDrop ?_
        refine gBM ?_
        refine gV rfl ?_
        refine ⟨.inl ⟨rfl, _, .inl (.inl S2.head)⟩, ?_⟩
        refine gCons' ?_
        refine gOp ?_
        refine gOp ?_
        refine gOp ?_
        refine gV rfl ?_
        refine gUn ?_
        refine gC ?_
        refine ⟨_, rfl, ?_⟩
        obtain ⟨x2, hq7, hm9⟩ := bindS hm8
        refine q_ixO S2 h6 hq7 (fun v4 h9 => ?_)
        obtain rfl := (show v4 = (V.int x2) from h9)
        refine gCall ?_
        refine gCons' ?_
        refine gOp ?_
        refine gV rfl ?_
        refine gV rfl ?_
        obtain ⟨x3, hq8, hm10⟩ := bindS hm9
        refine q_ixL S2 (rM_L (K := K) h7) hq8 (fun v5 h10 => ?_)
        refine gNil' ?_
        obtain ⟨r1, hq9, hm11⟩ := bindS hm10
        refine ⟨G1, ((a1, HO.lst w3) :: O), v5, x3, rfl, S2, h10, r1, hq9, fun G2 H3 e2 S3 => ?_⟩
        have h11 := R.up e2 h7
        have h12 := R.up e2 h8
        have h13 := Al.up e2 h6
        have E2 := E1.trans e2
        refine ⟨_, _, rfl, rfl, ?_⟩
        refine gOp ?_
        refine gOp ?_
        refine gV rfl ?_
        refine gV rfl ?_
        obtain ⟨x5, hq11, hm13⟩ := bindS hm11
        refine q_ixL S3 (rM_L (K := K) h12) hq11 (fun v7 h15 => ?_)
        refine gV rfl ?_
        obtain ⟨x6, hq12, hm14⟩ := bindS hm13
        refine q_ixL S3 (rM_L (K := K) h15) hq12 (fun v8 h16 => ?_)
        obtain rfl := (show v8 = (V.int x6) from h16)
        refine ⟨_, _, rfl, rfl, ?_⟩
        refine gNil' ?_
        obtain ⟨found3, hq13, hm15⟩ := bindS hm14
        refine q_app S3 h13 (show R.rel rInt G2 (V.int ((x2 + r1) + x6)) ((x2 + r1) + x6) from rfl) hq13 (fun H4 w4 S4 h17 => ?_)
        cases hm15
        exact ⟨_, ⟨G2, w4, _, _, _, (e1.trans e2), S4, rfl, h17⟩, hr1⟩
      · intro s σ H h1 h2
        cases h1
        obtain ⟨G, k2, k3, k4, k5, ie, irest⟩ := h2
        exact ⟨G, k2, k3, k4, k5, (ie), irest⟩
    · intro σ2 H5 hJ1
      obtain ⟨G3, w5, y7, y8, y9, e3, S5, rfl, h18⟩ := hJ1
      have h19 := R.up e3 h1
      have h20 := R.up e3 h2
      have E3 := E0.trans e3
      refine gRet ?_
      refine gV rfl ?_
      obtain ⟨G4, e4, S6, h21⟩ := frz_M S5 h18
      have h22 := R.up e4 h19
      have h23 := R.up e4 h20
      have E4 := E3.trans e4
      cases hm3
      exact q (V.ref a1) G4 H5 E4 S6 h21
end
end Mr

set_option Elab.async false
set_option linter.all false
set_option maxRecDepth 100000
set_option maxHeartbeats 4000000
set_option synthInstance.maxSize 4000
set_option synthInstance.maxHeartbeats 400000
namespace Mr
open PySem PySem.Spec PyProof.Rows L2 GFr
section
variable {P : Program} {w : World} {K : PySem.W.Frag} {mg : Str → Option Value} {base : Heap}
theorem sc_law_word : FnScope ["_law_bag_here", "_law_many", "_law_most", "_law_word_here", "_law_turn"] ["_law_bag_here", "_law_many", "_law_most"] (defScope s_law_word) := ⟨rfl, rfl, rfl, by decide +kernel, rfl, by decide +kernel, by decide +kernel⟩
theorem ok_law_word (T : Tx K mg) : FnOk P w K mg base CX0 2 (He.fAd K ("_law_word", none)) T.fd_law_word ["_law_bag_here", "_law_many", "_law_most"] (sp_law_word K) := by
  have G_law_draw := ok_law_draw (P := P) (w := w) (base := base) T
  refine T.F_law_word.ok sc_law_word (fun vs H Q E h => ?_) (fun cdv A outer s H0 vs Q E hr h => ?_)
  · obtain ⟨G, O, a1, w1, bag_here1, many1, most1, rfl, _⟩ := h
    rfl
  · obtain ⟨G0, O, a1, w1, bag_here1, many1, most1, rfl, S0, h1, res, hm, q⟩ := h
    refine ⟨_, PSs.nox (pss_cons (ps_set (i := 3) sc_law_word.nd rfl (.inl rfl) (pe_strT (l := ([] : Wrd)) (by decide +kernel)))
      (pss_cons (ps_cut (ps_for PassesOwn.never rfl (pi_range1 (by rfl) T.z_range (pa_cons (pe_op op_add pe_int (pe_call G_law_draw (hr.mono (by decide)) (by rfl) T.g_law_draw T.F_law_draw.kp T.b_law_draw .nil pass0 (pa_cons (pv 0) (pa_cons (pv 2) pa_nil)))) pa_nil)) (pg_name (i := 4) sc_law_word.nd rfl (.inl rfl))
      (pss_one (ps_set (i := 3) sc_law_word.nd rfl (.inl rfl) (pe_op op_addT (pv 3) (pe_ix ix_str (pe_strT (l := ([97, 98, 99, 100] : Wrd)) (by decide +kernel)) (pe_call G_law_draw (hr.mono (by decide)) (by rfl) T.g_law_draw T.F_law_draw.kp T.b_law_draw .nil pass0 (pa_cons (pv 0) (pa_cons (pv 1) pa_nil))) (fun _ _ => rfl)))))))
      (pss_one (ps_ret (pv 3))))), ?_⟩
    have E0 := Ext.refl G0
    have hm0 : (Option.bind (m_law_draw bag_here1 most1) fun (r1, bag_here2) =>
  Option.bind (rngM ((1 : Int) + r1)) fun xs1 =>
  Option.bind (folM (m_law_word_b1 many1) xs1 (bag_here2, ([] : Wrd))) fun (bag_here3, word_here1) =>
  some (word_here1, bag_here3)) = some res := hm
    refine gS_AsgN ?_
    refine gC ?_
    obtain ⟨⟨r1, bag_here2⟩, hq1, hm1⟩ := bindS hm0
    dsimp only at hm1
    obtain ⟨xs1, hq2, hm2⟩ := bindS hm1
    obtain ⟨⟨bag_here3, word_here1⟩, hl1, hm3⟩ := bindS hm2
    dsimp only at hm3
    refine gS_CS (fun (σ : L2.St) (H : Hp) => ∃ (G : Hp) (w3 : List V) (y1 : Option V), Ext G0 G ∧ Sub G ((a1, HO.lst w3) :: O) H ∧ σ = [some (V.ref a1), some (V.int many1), some (V.int most1), some (V.str (e_T word_here1)), y1] ∧ Al rInt G w3 bag_here3) ?_ ?_
    · skip
      refine gFor ?_
      refine gIR ?_
      refine gCons' ?_
      refine gOp ?_
      refine gC ?_
      refine gCall ?_
      refine gCons' ?_
      refine gV rfl ?_
      refine gCons' ?_
      refine gV rfl ?_
      refine gNil' ?_
      refine ⟨G0, (O), a1, w1, bag_here1, most1, rfl, S0, h1, (r1, bag_here2), hq1, fun G1 H1 w2 e1 S1 h2 => ?_⟩
      have E1 := E0.trans e1
      refine ⟨_, _, rfl, rfl, ?_⟩
      refine gNil' ?_
      refine lp_R hq2 (fol_for Empty hl1) (fun (s : (List Int) × Wrd) (σ : L2.St) (H : Hp) => ∃ (G : Hp) (w3 : List V) (y1 : Option V), Ext G1 G ∧ Sub G ((a1, HO.lst w3) :: O) H ∧ σ = [some (V.ref a1), some (V.int many1), some (V.int most1), some (V.str (e_T s.2)), y1] ∧ Al rInt G w3 s.1) ⟨G1, w2, _, (Ext.refl _), S1, rfl, h2⟩ ?_ ?_
      · intro i1 x1 s1 b1 hb1 hr1 σ1 H2 hI1
        obtain ⟨s2, hb2, hb3⟩ := goF_some hb1
        subst hb3
        obtain ⟨bag_here4, word_here2⟩ := s1
        obtain ⟨G2, w4, y2, e2, S2, rfl, h4⟩ := hI1
        have E2 := E1.trans e2
        have hm4 : (Option.bind (m_law_draw bag_here4 many1) fun (r2, bag_here5) =>   Option.bind (getT ([97, 98, 99, 100] : Wrd) r2) fun t1 =>   Option.bind (catT word_here2 t1) fun t2 =>   some (bag_here5, t2)) = some s2 := hb2
        refine gAsgN ?_
        refine gOp ?_
        refine gV rfl ?_
        refine gOp ?_
        refine gC ?_
        refine gCall ?_
        refine gCons' ?_
        refine gV rfl ?_
        refine gCons' ?_
        refine gV rfl ?_
        refine gNil' ?_
        obtain ⟨⟨r2, bag_here5⟩, hq3, hm5⟩ := bindS hm4
        dsimp only at hm5
        refine ⟨G2, (O), a1, w4, bag_here4, many1, rfl, S2, h4, (r2, bag_here5), hq3, fun G3 H3 w5 e3 S3 h5 => ?_⟩
        have E3 := E2.trans e3
        obtain ⟨t1, hq4, hm6⟩ := bindS hm5
        refine q_ixTx hq4 ?_
        obtain ⟨t2, hq5, hm7⟩ := bindS hm6
        refine q_catT hq5 ?_
        cases hm7
        exact ⟨(bag_here5, t2), ⟨G3, w5, _, (e2.trans e3), S3, rfl, h5⟩, hr1⟩
      · intro s σ H h1 h2
        cases h1
        obtain ⟨G, k1, k2, ie, irest⟩ := h2
        exact ⟨G, k1, k2, (e1.trans ie), irest⟩
    · intro σ2 H4 hJ1
      obtain ⟨G4, w6, y3, e4, S4, rfl, h6⟩ := hJ1
      have E4 := E0.trans e4
      refine gRet ?_
      refine gV rfl ?_
      cases hm3
      exact q G4 H4 w6 E4 S4 h6
end
end Mr

set_option Elab.async false
set_option linter.all false
set_option maxRecDepth 100000
set_option maxHeartbeats 4000000
set_option synthInstance.maxSize 4000
set_option synthInstance.maxHeartbeats 400000
namespace Mr
open PySem PySem.Spec PyProof.Rows L2 GFr
section
variable {P : Program} {w : World} {K : PySem.W.Frag} {mg : Str → Option Value} {base : Heap}
theorem sc_law_refusals_stand : FnScope ["_law_face", "_law_wrong"] ["_law_face", "_law_wrong"] (defScope s_law_refusals_stand) := ⟨rfl, rfl, rfl, by decide +kernel, rfl, by decide +kernel, by decide +kernel⟩
theorem ok_law_refusals_stand (T : Tx K mg) (TB : Tbs K mg base) : FnOk P w K mg base CX0 11 (He.fAd K ("_law_refusals_stand", none)) T.fd_law_refusals_stand ["_law_face", "_law_wrong"] (sp_law_refusals_stand K) := by
  have G_columns__1 := ok_columns__1 (P := P) (w := w) (base := base) T
  have G_is_word__1 := ok_is_word__1 (P := P) (w := w) (base := base) T
  have G_stamps__1 := ok_stamps__1 (P := P) (w := w) (base := base) T
  have G_width__1 := ok_width__1 (P := P) (w := w) (base := base) T
  refine FunD_okC T.F_law_refusals_stand sc_law_refusals_stand (fun vs H Q E h => ?_) (fun A outer s H0 vs Q E hr h => ?_)
  · obtain ⟨G, O, v1, face1, v2, wrong1, B1, rfl, _⟩ := h
    rfl
  · obtain ⟨G0, O, v1, face1, v2, wrong1, B1, rfl, S0, h1, h2, hT1, nc1, res, hm, q⟩ := h
    have hu := TbR.uniq (T := tbs K) (E := ([] : Own)) (O := O) hT1 S0 (.head _)
    refine ⟨_, PSs.nox (pss_cons (ps_if (pt_cut (PW.pt (pw_or (pt_cmpR op_notBl (pe_call G_is_word__1 (hr.mono (by decide)) (by rfl) T.g_is_word T.F_is_word.kp T.b_is_word .nil pass0 (pa_cons (pv 0) (pa_cons (pv 1) pa_nil))) pe_bl (nomark _)) (pw_or1 (pt_not (pt_val (pe_cut (pe_lamF2 (k := 7) T.F_law_refused T.b_law_refused (by rfl) T.g_law_refused sc_law_refused rfl (.inl rfl) (fun cdg => gives_law_refused T _ _ cdg) (TB ("_law_refusals_stand", none) (.head _)) rfl (.head _) hu (hr.mono (by decide)) (LamX.lamS_by (sc := defScope s_law_refusals_stand) (by decide +kernel)) rfl (fun _ _ _ _ _ => rfl) (fun A outer s H E f c' hr => (pe_call G_columns__1 (hr.mono (by decide)) (by rfl) T.g_columns T.F_columns.kp T.b_columns .nil passLam (pa_cons (pv 0) (pa_cons (pv 1) pa_nil)))) (pv 1))))))))) (pss_one (ps_ret pe_bl)) pss_nil)
      (pss_cons (ps_if (pt_not (pt_val (pe_cut (pe_lamF2 (k := 8) T.F_law_refused T.b_law_refused (by rfl) T.g_law_refused sc_law_refused rfl (.inl rfl) (fun cdg => gives_law_refused T _ _ cdg) (TB ("_law_refusals_stand", none) (.head _)) rfl (.head _) hu (hr.mono (by decide)) (LamX.lamS_by (sc := defScope s_law_refusals_stand) (by decide +kernel)) rfl (fun _ _ _ _ _ => rfl) (fun A outer s H E f c' hr => (pe_call G_width__1 (hr.mono (by decide)) (by rfl) T.g_width T.F_width.kp T.b_width .nil passLam (pa_cons (pv 0) (pa_cons (pv 1) pa_nil)))) (pv 1))))) (pss_one (ps_ret pe_bl)) pss_nil)
      (pss_one (ps_ret (pe_cut (pe_lamF2 (k := 8) T.F_law_refused T.b_law_refused (by rfl) T.g_law_refused sc_law_refused rfl (.inl rfl) (fun cdg => gives_law_refused T _ _ cdg) (TB ("_law_refusals_stand", none) (.head _)) rfl (.head _) hu (hr.mono (by decide)) (LamX.lamS_by (sc := defScope s_law_refusals_stand) (by decide +kernel)) rfl (fun _ _ _ _ _ => rfl) (fun A outer s H E f c' hr => (pe_call G_stamps__1 (hr.mono (by decide)) (by rfl) T.g_stamps T.F_stamps.kp T.b_stamps .nil passLam (pa_cons (pv 0) (pa_cons (pv 1) pa_nil)))) (pv 1))))))), ?_⟩
    have E0 := Ext.refl G0
    have hm0 : (Option.bind (Option.bind (m_is_word__1 face1 wrong1) fun r1 =>
  if (!decide (r1 = false)) then some (true, ()) else (Option.bind (m_columns__1 face1 wrong1) fun rs2 =>
  Option.bind (m_law_refused rs2 (toA wrong1)) fun told2 =>
  some ((!told2), ()))) fun (x1, tab1) =>
  if x1 then (some false)
  else (Option.bind (m_width__1 face1 wrong1) fun rs6 =>
  Option.bind (m_law_refused rs6 (toA wrong1)) fun told6 =>
  if (!told6) then (some false)
  else (Option.bind (m_stamps__1 face1 wrong1) fun rs7 =>
  Option.bind (m_law_refused rs7 (toA wrong1)) fun told7 =>
  some told7))) = some res := hm
    refine gS_IfS ?_
    obtain ⟨⟨x1, tab1⟩, hq6, hm6⟩ := bindS hm0
    dsimp only at hm6
    refine gCT (fun (b : Bool) (H : Hp) => ∃ (G : Hp) (B8 : Own), Ext G0 G ∧ Sub G ((B8 ++ O)) H ∧ b = x1 ∧ TbR (tbs K) B8 G) ?_ ?_
    · skip
      refine gOr ?_
      refine gTest ?_
      refine gOp ?_
      refine gCall ?_
      refine gCons' ?_
      refine gV rfl ?_
      refine gCons' ?_
      refine gV rfl ?_
      refine gNil' ?_
      obtain ⟨r6, hq7, hm7⟩ := bindS hq6
      refine ⟨G0, ((B1 ++ O)), v1, face1, v2, wrong1, rfl, S0, h1, h2, r6, hq7, fun G10 H10 e10 S12 => ?_⟩
      have h19 := R.up e10 h1
      have h20 := R.up e10 h2
      have E6 := E0.trans e10
      refine gC ?_
      refine ⟨_, _, rfl, rfl, ?_⟩
      refine ⟨(!decide (r6 = false)), rfl, ?_⟩
      refine ite2 (fun c1 => ?_) (fun c1 => ?_)
      · skip
        have hm8 := (if_pos c1).symm.trans hm7
        cases hm8
        exact ⟨G10, B1, e10, S12, rfl, (TbR.up hT1 e10)⟩
      · skip
        have hm9 := (if_neg c1).symm.trans hm7
        refine gNot ?_
        refine gB ?_
        obtain ⟨rs4, hq10, hm12⟩ := bindS hm9
        obtain ⟨told4, hq11, hm13⟩ := bindS hm12
        refine gCE (fun (v : V) (H : Hp) => ∃ (G : Hp) (B12 : Own), Ext G10 G ∧ Sub G ((B12 ++ O)) H ∧ v = (V.bl told4) ∧ TbR (tbs K) B12 G) ?_ ?_
        · skip
          refine gLam2 (i := 1) rfl ⟨TbR.tabs (E := ([] : Own)) (O := O) (TbR.up hT1 e10) S12, fun H15 eN4 T4 => ?_⟩
          obtain ⟨G15, B13, e15, S18, hT8⟩ := tab_step (E := ([] : Own)) (O := O) S12 (TbR.up hT1 e10) nc1 eN4 T4
          have h28 := R.up e15 h19
          have h29 := R.up e15 h20
          have E9 := E6.trans e15
          have S19 : Sub G15 ((B13 ++ O)) H15 := S18
          refine gTO_law_refused ?_
          refine gCall ?_
          refine gCons' ?_
          refine gV rfl ?_
          refine gCons' ?_
          refine gV rfl ?_
          refine gNil' ?_
          refine ⟨G15, ((B13 ++ O)), v1, face1, v2, wrong1, rfl, S19, h28, h29, rs4, hq10, fun r hres v12 G16 H16 e16 S20 h30 => ?_, fun x hres c d G16 H16 e16 S20 h30 => ?_⟩
          · subst hres
            cases hq11
            exact ⟨G16, B13, e15.trans e16, S20, rfl, TbR.up (TbR.up hT8 (Ext.refl _)) e16⟩
          · subst hres
            refine ⟨x, G16, ((B13 ++ O)), (toA wrong1), told4, S20, h30, R.up (e15.trans e16) (rTO_any h20), hq11, fun G17 H17 e17 S21 => ?_⟩
            exact ⟨G17, B13, (e15.trans e16).trans e17, S21, rfl, TbR.up (TbR.up hT8 (Ext.refl _)) (e16.trans e17)⟩
        · intro v14 H18 hJ
          obtain ⟨G18, B14, e18, S22, rfl, hT9⟩ := hJ
          have h33 := R.up e18 h19
          have h34 := R.up e18 h20
          have E10 := E6.trans e18
          refine ⟨told4, rfl, ?_⟩
          cases hm13
          exact ⟨G18, B14, (e10.trans e18), S22, rfl, (TbR.up hT9 (Ext.refl _))⟩
    · intro b1 H19 hJ
      obtain ⟨G19, B15, e19, S23, rfl, h35⟩ := hJ
      have h36 := R.up e19 h1
      have h37 := R.up e19 h2
      have E11 := E0.trans e19
      refine ite2 (fun c2 => ?_) (fun c2 => ?_)
      · skip
        have hm14 := (if_pos c2).symm.trans hm6
        refine gRet ?_
        refine gC ?_
        cases hm14
        exact q G19 H19 B15 E11 S23 (TbR.up h35 (Ext.refl _))
      · skip
        have hm15 := (if_neg c2).symm.trans hm6
        refine gNext ?_
        refine gE ?_
        refine gS_IfS ?_
        refine gNot ?_
        refine gB ?_
        obtain ⟨rs6, hq14, hm18⟩ := bindS hm15
        obtain ⟨told6, hq15, hm19⟩ := bindS hm18
        refine gCE (fun (v : V) (H : Hp) => ∃ (G : Hp) (B19 : Own), Ext G19 G ∧ Sub G ((B19 ++ O)) H ∧ v = (V.bl told6) ∧ TbR (tbs K) B19 G) ?_ ?_
        · skip
          refine gLam2 (i := 1) rfl ⟨TbR.tabs (E := ([] : Own)) (O := O) (TbR.up h35 (Ext.refl _)) S23, fun H24 eN6 T6 => ?_⟩
          obtain ⟨G24, B20, e24, S29, hT12⟩ := tab_step (E := ([] : Own)) (O := O) S23 (TbR.up h35 (Ext.refl _)) nc1 eN6 T6
          have h45 := R.up e24 h36
          have h46 := R.up e24 h37
          have E14 := E11.trans e24
          have S30 : Sub G24 ((B20 ++ O)) H24 := S29
          refine gTO_law_refused ?_
          refine gCall ?_
          refine gCons' ?_
          refine gV rfl ?_
          refine gCons' ?_
          refine gV rfl ?_
          refine gNil' ?_
          refine ⟨G24, ((B20 ++ O)), v1, face1, v2, wrong1, rfl, S30, h45, h46, rs6, hq14, fun r hres G25 H25 e25 S31 => ?_, fun x hres c d G25 H25 e25 S31 h47 => ?_⟩
          · subst hres
            cases hq15
            exact ⟨G25, B20, e24.trans e25, S31, rfl, TbR.up (TbR.up hT12 (Ext.refl _)) e25⟩
          · subst hres
            refine ⟨x, G25, ((B20 ++ O)), (toA wrong1), told6, S31, h47, R.up (e24.trans e25) (rTO_any h37), hq15, fun G26 H26 e26 S32 => ?_⟩
            exact ⟨G26, B20, (e24.trans e25).trans e26, S32, rfl, TbR.up (TbR.up hT12 (Ext.refl _)) (e25.trans e26)⟩
        · intro v20 H27 hJ
          obtain ⟨G27, B21, e27, S33, rfl, hT13⟩ := hJ
          have h50 := R.up e27 h36
          have h51 := R.up e27 h37
          have E15 := E11.trans e27
          refine ⟨told6, rfl, ?_⟩
          refine ite2 (fun c3 => ?_) (fun c3 => ?_)
          · skip
            have hm20 := (if_pos c3).symm.trans hm19
            refine gRet ?_
            refine gC ?_
            cases hm20
            exact q G27 H27 B21 E15 S33 (TbR.up hT13 (Ext.refl _))
          · skip
            have hm21 := (if_neg c3).symm.trans hm19
            refine gNext ?_
            refine gE ?_
            refine gRet ?_
            obtain ⟨rs7, hq16, hm22⟩ := bindS hm21
            obtain ⟨told7, hq17, hm23⟩ := bindS hm22
            refine gCE (fun (v : V) (H : Hp) => ∃ (G : Hp) (B22 : Own), Ext G27 G ∧ Sub G ((B22 ++ O)) H ∧ v = (V.bl told7) ∧ TbR (tbs K) B22 G) ?_ ?_
            · skip
              refine gLam2 (i := 1) rfl ⟨TbR.tabs (E := ([] : Own)) (O := O) (TbR.up hT13 (Ext.refl _)) S33, fun H28 eN7 T7 => ?_⟩
              obtain ⟨G28, B23, e28, S34, hT14⟩ := tab_step (E := ([] : Own)) (O := O) S33 (TbR.up hT13 (Ext.refl _)) nc1 eN7 T7
              have h52 := R.up e28 h50
              have h53 := R.up e28 h51
              have E16 := E15.trans e28
              have S35 : Sub G28 ((B23 ++ O)) H28 := S34
              refine gTO_law_refused ?_
              refine gCall ?_
              refine gCons' ?_
              refine gV rfl ?_
              refine gCons' ?_
              refine gV rfl ?_
              refine gNil' ?_
              refine ⟨G28, ((B23 ++ O)), v1, face1, v2, wrong1, rfl, S35, h52, h53, rs7, hq16, fun r hres v21 G29 H29 e29 S36 h54 => ?_, fun x hres c d G29 H29 e29 S36 h54 => ?_⟩
              · subst hres
                cases hq17
                exact ⟨G29, B23, e28.trans e29, S36, rfl, TbR.up (TbR.up hT14 (Ext.refl _)) e29⟩
              · subst hres
                refine ⟨x, G29, ((B23 ++ O)), (toA wrong1), told7, S36, h54, R.up (e28.trans e29) (rTO_any h51), hq17, fun G30 H30 e30 S37 => ?_⟩
                exact ⟨G30, B23, (e28.trans e29).trans e30, S37, rfl, TbR.up (TbR.up hT14 (Ext.refl _)) (e29.trans e30)⟩
            · intro v23 H31 hJ
              obtain ⟨G31, B24, e31, S38, rfl, hT15⟩ := hJ
              have h57 := R.up e31 h50
              have h58 := R.up e31 h51
              have E17 := E15.trans e31
              cases hm23
              exact q G31 H31 B24 E17 S38 (TbR.up hT15 (Ext.refl _))
end
end Mr

set_option Elab.async false
set_option linter.all false
set_option maxRecDepth 100000
set_option maxHeartbeats 4000000
set_option synthInstance.maxSize 4000
set_option synthInstance.maxHeartbeats 400000
namespace Mr
open PySem PySem.Spec PyProof.Rows L2 GFr
section
variable {P : Program} {w : World} {K : PySem.W.Frag} {mg : Str → Option Value} {base : Heap}
theorem sc_law_wrong_word : FnScope ["_law_bag_here", "_law_many", "_law_word_here", "_law_place", "_law_beyond", "_law_some"] ["_law_bag_here", "_law_many"] (defScope s_law_wrong_word) := ⟨rfl, rfl, rfl, by decide +kernel, rfl, by decide +kernel, by decide +kernel⟩
theorem ok_law_wrong_word (T : Tx K mg) : FnOk P w K mg base CX0 3 (He.fAd K ("_law_wrong_word", none)) T.fd_law_wrong_word ["_law_bag_here", "_law_many"] (sp_law_wrong_word K) := by
  have G_law_draw := ok_law_draw (P := P) (w := w) (base := base) T
  have G_law_one := ok_law_one (P := P) (w := w) (base := base) T
  have G_law_one__1 := ok_law_one__1 (P := P) (w := w) (base := base) T
  have G_law_word := ok_law_word (P := P) (w := w) (base := base) T
  refine T.F_law_wrong_word.ok sc_law_wrong_word (fun vs H Q E h => ?_) (fun cdv A outer s H0 vs Q E hr h => ?_)
  · obtain ⟨G, O, a1, w1, bag_here1, many1, rfl, _⟩ := h
    rfl
  · obtain ⟨G0, O, a1, w1, bag_here1, many1, rfl, S0, h1, res, hm, q⟩ := h
    refine ⟨_, PSs.nox (pss_cons (ps_set (i := 2) sc_law_wrong_word.nd rfl (.inl rfl) (pe_call G_law_word (hr.mono (by decide)) (by rfl) T.g_law_word T.F_law_word.kp T.b_law_word .nil pass0 (pa_cons (pv 0) (pa_cons (pv 1) (pa_cons pe_int pa_nil)))))
      (pss_cons (ps_set (i := 3) sc_law_wrong_word.nd rfl (.inl rfl) (pe_call G_law_draw (hr.mono (by decide)) (by rfl) T.g_law_draw T.F_law_draw.kp T.b_law_draw .nil pass0 (pa_cons (pv 0) (pa_cons (pe_op op_add (pe_callB (r := rLenS) call_lenS (by rfl) T.z_len boot_len (pa_cons (pv 2) pa_nil)) pe_int) pa_nil))))
      (pss_cons (ps_set (i := 4) sc_law_wrong_word.nd rfl (.inl rfl) (pe_call G_law_one (hr.mono (by decide)) (by rfl) T.g_law_one T.F_law_one.kp T.b_law_one .nil pass0 (pa_cons (pv 0) (pa_cons (pe_op op_cat (pe_callTy (r := rListTx) (call_listTx rfl) (by rfl) T.z_list boot_list (pa_cons (pe_slice sl_str (pe_strT (l := ([97, 98, 99, 100] : Wrd)) (by decide +kernel)) (po_some (pv 1)) po_none) pa_nil)) (pe_lst (pa_cons (pe_strT (l := ([101] : Wrd)) (by decide +kernel)) (pa_cons (pe_strT (l := ([65] : Wrd)) (by decide +kernel)) (pa_cons (pe_strT (l := ([32] : Wrd)) (by decide +kernel)) (pa_cons (pe_strT (l := ([35] : Wrd)) (by decide +kernel)) (pa_cons (pe_strT (l := ([48] : Wrd)) (by decide +kernel)) (pa_cons (pe_strT (l := ([122] : Wrd)) (by decide +kernel)) pa_nil)))))))) pa_nil))))
      (pss_cons (ps_set (i := 5) sc_law_wrong_word.nd rfl (.inl rfl) (pe_lst (pa_cons (pe_strT (l := ([] : Wrd)) (by decide +kernel)) (pa_cons pe_non (pa_cons pe_int (pa_cons pe_int (pa_cons (pe_lst (pa_cons (pe_strT (l := ([97] : Wrd)) (by decide +kernel)) pa_nil)) (pa_cons (pe_tup (pa_cons (pe_strT (l := ([97] : Wrd)) (by decide +kernel)) (pa_cons (pe_strT (l := ([97] : Wrd)) (by decide +kernel)) pa_nil))) (pa_cons (pe_slice sl_str (pe_op op_addT (pe_op op_addT (pv 2) (pv 2)) (pe_op op_mulT (pe_strT (l := ([97] : Wrd)) (by decide +kernel)) pe_int)) po_none (po_some (pe_op op_add pe_int (pe_call G_law_draw (hr.mono (by decide)) (by rfl) T.g_law_draw T.F_law_draw.kp T.b_law_draw .nil pass0 (pa_cons (pv 0) (pa_cons pe_int pa_nil)))))) (pa_cons (pe_callTy (r := rListTx) (call_listTx rfl) (by rfl) T.z_list boot_list (pa_cons (pv 2) pa_nil)) pa_nil))))))))))
      (pss_one (ps_ret (pe_cut (pe_ifExp (pt_cmpR op_eqI (pe_call G_law_draw (hr.mono (by decide)) (by rfl) T.g_law_draw T.F_law_draw.kp T.b_law_draw .nil pass0 (pa_cons (pv 0) (pa_cons pe_int pa_nil))) pe_int (nomark _)) (pe_op op_addT (pe_op op_addT (pe_slice sl_str (pv 2) po_none (po_some (pv 3))) (pv 4)) (pe_slice sl_str (pv 2) (po_some (pv 3)) po_none)) (pe_call G_law_one__1 (hr.mono (by decide)) (by rfl) T.g_law_one T.F_law_one.kp T.b_law_one .nil pass0 (pa_cons (pv 0) (pa_cons (pv 5) pa_nil))))))))))), ?_⟩
    have E0 := Ext.refl G0
    have hm0 : (Option.bind (m_law_word bag_here1 many1 (39 : Int)) fun (r1, bag_here2) =>
  Option.bind (lenT r1) fun k1 =>
  Option.bind (m_law_draw bag_here2 (k1 + (1 : Int))) fun (r2, bag_here3) =>
  Option.bind (cutT ([97, 98, 99, 100] : Wrd) (some many1) none) fun t2 =>
  Option.bind (lsTx t2) fun z3 =>
  Option.bind (catM z3 ([([101] : Wrd), ([65] : Wrd), ([32] : Wrd), ([35] : Wrd), ([48] : Wrd), ([122] : Wrd)] : List Wrd)) fun z4 =>
  Option.bind (m_law_one bag_here3 z4) fun (r3, bag_here4) =>
  Option.bind (catT r1 r1) fun t3 =>
  Option.bind (mulT ([97] : Wrd) (40 : Int)) fun t4 =>
  Option.bind (catT t3 t4) fun t5 =>
  Option.bind (m_law_draw bag_here4 (3 : Int)) fun (r4, bag_here5) =>
  Option.bind (cutT t5 none (some ((41 : Int) + r4))) fun t6 =>
  Option.bind (lsTx r1) fun z5 =>
  Option.bind (Option.bind (m_law_draw bag_here5 (2 : Int)) fun (r5, bag_here6) =>
  if (decide (r5 = (0 : Int))) then (Option.bind (cutT r1 none (some r2)) fun t7 =>
  Option.bind (catT t7 r3) fun t8 =>
  Option.bind (cutT r1 (some r2) none) fun t9 =>
  Option.bind (catT t8 t9) fun t10 =>
  some ((Sum.inl t10 : TxO), bag_here6)) else (Option.bind (m_law_one__1 bag_here6 ([(Sum.inl ([] : Wrd) : TxO), (Sum.inr PyData.none : TxO), (Sum.inr (PyData.int (0 : Int)) : TxO), (Sum.inr (PyData.int (7 : Int)) : TxO), (Sum.inr (PyData.list (([([97] : Wrd)] : List Wrd).map fun z => (PyData.str (e_T z)))) : TxO), (Sum.inr (PyData.tuple [(PyData.str (e_T (([97] : Wrd), ([97] : Wrd)).1)), (PyData.str (e_T (([97] : Wrd), ([97] : Wrd)).2))]) : TxO), (Sum.inl t6 : TxO), (Sum.inr (PyData.list (z5.map fun z => (PyData.str (e_T z)))) : TxO)] : List TxO)) fun (r6, bag_here7) =>
  some (r6, bag_here7))) fun (x1, bag_here8) =>
  some (x1, bag_here8)) = some res := hm
    refine gS_AsgN ?_
    refine gCall ?_
    refine gCons' ?_
    refine gV rfl ?_
    refine gCons' ?_
    refine gV rfl ?_
    refine gCons' ?_
    refine gC ?_
    refine gNil' ?_
    obtain ⟨⟨r1, bag_here2⟩, hq1, hm1⟩ := bindS hm0
    dsimp only at hm1
    refine ⟨G0, (O), a1, w1, bag_here1, many1, (39 : Int), rfl, S0, h1, (r1, bag_here2), hq1, fun G1 H1 w2 e1 S1 h2 => ?_⟩
    have E1 := E0.trans e1
    refine gS_AsgN ?_
    refine gCall ?_
    refine gCons' ?_
    refine gV rfl ?_
    refine gCons' ?_
    refine gOp ?_
    refine gCB ?_
    refine gCons' ?_
    refine gV rfl ?_
    refine gNil' ?_
    obtain ⟨k1, hq2, hm2⟩ := bindS hm1
    refine q_lenT' hq2 ?_
    refine gC ?_
    refine ⟨_, _, rfl, rfl, ?_⟩
    refine gNil' ?_
    obtain ⟨⟨r2, bag_here3⟩, hq3, hm3⟩ := bindS hm2
    dsimp only at hm3
    refine ⟨G1, (O), a1, w2, bag_here2, (k1 + (1 : Int)), rfl, S1, h2, (r2, bag_here3), hq3, fun G2 H2 w3 e2 S2 h3 => ?_⟩
    have E2 := E1.trans e2
    refine gS_AsgN ?_
    refine gCall ?_
    refine gCons' ?_
    refine gV rfl ?_
    refine gCons' ?_
    refine gOp ?_
    refine gCB ?_
    refine gCons' ?_
    refine gSl ?_
    refine gC ?_
    refine gPart ?_
    refine gV rfl ?_
    refine ⟨_, rfl, ?_⟩
    refine gNoPart ?_
    obtain ⟨t2, hq7, hm7⟩ := bindS hm3
    refine q_slT hq7 ?_
    refine gNil' ?_
    obtain ⟨z3, hq8, hm8⟩ := bindS hm7
    refine q_listTx S2 hq8 (fun v3 G5 H6 e5 S6 h11 => ?_)
    have h12 := Al.up e5 h3
    have E5 := E2.trans e5
    refine gLst ?_
    refine gCons' ?_
    refine gC ?_
    refine gCons' ?_
    refine gC ?_
    refine gCons' ?_
    refine gC ?_
    refine gCons' ?_
    refine gC ?_
    refine gCons' ?_
    refine gC ?_
    refine gCons' ?_
    refine gC ?_
    refine gNil' ?_
    have h13 : Al rTx G5 [(V.str (e_T ([101] : Wrd))), (V.str (e_T ([65] : Wrd))), (V.str (e_T ([32] : Wrd))), (V.str (e_T ([35] : Wrd))), (V.str (e_T ([48] : Wrd))), (V.str (e_T ([122] : Wrd)))] [([101] : Wrd), ([65] : Wrd), ([32] : Wrd), ([35] : Wrd), ([48] : Wrd), ([122] : Wrd)] := ⟨rfl, rfl, rfl, rfl, rfl, rfl, True.intro⟩
    refine q_lst S6 h13 (by show 6 ≤ 100000; decide) (fun a3 H7 w5 S7 h14 => ?_)
    obtain ⟨z4, hq9, hm9⟩ := bindS hm8
    have h15 := ls_O S7 h14
    refine q_cat S7 (ls_M S7 h11) h15 hq9 (fun v4 G6 H8 e6 S8 h16 => ?_)
    have h17 := Al.up e6 h12
    have E6 := E5.trans e6
    refine gNil' ?_
    have S9 : Sub G6 ((a1, HO.lst w3) :: (a3, HO.lst w5) :: O) H8 := S8.front 1 rfl rfl
    obtain ⟨⟨r3, bag_here4⟩, hq10, hm10⟩ := bindS hm9
    dsimp only at hm10
    refine ⟨G6, ((a3, HO.lst w5) :: O), a1, w3, bag_here3, v4, z4, rfl, S9, h17, h16, (r3, bag_here4), hq10, fun G7 H9 w6 e7 S10 h18 => ?_⟩
    have E7 := E6.trans e7
    refine gS_AsgN ?_
    refine gLst ?_
    refine gCons' ?_
    refine gC ?_
    refine gCons' ?_
    refine gC ?_
    refine gCons' ?_
    refine gC ?_
    refine gCons' ?_
    refine gC ?_
    refine gCons' ?_
    refine gLst ?_
    refine gCons' ?_
    refine gC ?_
    refine gNil' ?_
    have h19 : Al rTx G7 [(V.str (e_T ([97] : Wrd)))] [([97] : Wrd)] := ⟨rfl, True.intro⟩
    refine q_lst S10 h19 (by show 1 ≤ 100000; decide) (fun a4 H10 w7 S11 h20 => ?_)
    refine gCons' ?_
    refine gTup' ?_
    refine gCons' ?_
    refine gC ?_
    refine gCons' ?_
    refine gC ?_
    refine gNil' ?_
    refine q_tup2 (K := K) S11 (show R.rel rTx G7 (V.str (e_T ([97] : Wrd))) ([97] : Wrd) from rfl) (show R.rel rTx G7 (V.str (e_T ([97] : Wrd))) ([97] : Wrd) from rfl) (fun v5 G8 H11 e8 S12 h21 => ?_)
    have h22 := Al.up e8 h18
    have h23 := Al.up e8 h20
    have E8 := E7.trans e8
    refine gCons' ?_
    refine gSl ?_
    refine gOp ?_
    refine gOp ?_
    refine gV rfl ?_
    refine gV rfl ?_
    obtain ⟨t3, hq11, hm11⟩ := bindS hm10
    refine q_catT hq11 ?_
    refine gOp ?_
    refine gC ?_
    refine gC ?_
    obtain ⟨t4, hq12, hm12⟩ := bindS hm11
    refine q_mulT hq12 ?_
    obtain ⟨t5, hq13, hm13⟩ := bindS hm12
    refine q_catT hq13 ?_
    refine gNoPart ?_
    refine gPart ?_
    refine gOp ?_
    refine gC ?_
    refine gCall ?_
    refine gCons' ?_
    refine gV rfl ?_
    refine gCons' ?_
    refine gC ?_
    refine gNil' ?_
    have S13 : Sub G8 ((a1, HO.lst w6) :: (a4, HO.lst w7) :: (a3, HO.lst w5) :: O) H11 := S12.front 1 rfl rfl
    obtain ⟨⟨r4, bag_here5⟩, hq14, hm14⟩ := bindS hm13
    dsimp only at hm14
    refine ⟨G8, ((a4, HO.lst w7) :: (a3, HO.lst w5) :: O), a1, w6, bag_here4, (3 : Int), rfl, S13, h22, (r4, bag_here5), hq14, fun G9 H12 w8 e9 S14 h24 => ?_⟩
    have h25 := Al.up e9 h23
    have h26 := R.up e9 h21
    have E9 := E8.trans e9
    refine ⟨_, _, rfl, rfl, ?_⟩
    refine ⟨_, rfl, ?_⟩
    obtain ⟨t6, hq15, hm15⟩ := bindS hm14
    refine q_slT hq15 ?_
    refine gCons' ?_
    refine gCB ?_
    refine gCons' ?_
    refine gV rfl ?_
    refine gNil' ?_
    obtain ⟨z5, hq16, hm16⟩ := bindS hm15
    refine q_listTx S14 hq16 (fun v6 G10 H13 e10 S15 h27 => ?_)
    have h28 := Al.up e10 h24
    have h29 := Al.up e10 h25
    have h30 := R.up e10 h26
    have E10 := E9.trans e10
    refine gNil' ?_
    have S16 : Sub G10 ((a4, HO.lst w7) :: (a1, HO.lst w8) :: (a3, HO.lst w5) :: O) H13 := S15.front 1 rfl rfl
    obtain ⟨G11, e11, S17, h31⟩ := frz_M S16 h29
    have h32 := Al.up e11 h28
    have h33 := R.up e11 (rTO_inl : R.rel (rTO K) G10 (V.str (e_T ([] : Wrd))) (Sum.inl ([] : Wrd)))
    have h34 := R.up e11 (show R.rel (rTO K) G10 V.non (Sum.inr PyData.none) from rTO_inr (show (rAny K).rel G10 V.non PyData.none from Dp.non) rfl)
    have h35 := R.up e11 (show R.rel (rTO K) G10 (V.int (0 : Int)) (Sum.inr (PyData.int (0 : Int))) from rTO_inr (show (rAny K).rel G10 (V.int (0 : Int)) (PyData.int (0 : Int)) from any_of (dInt (K := K)) (show R.rel rInt G10 (V.int (0 : Int)) (0 : Int) from rfl)) rfl)
    have h36 := R.up e11 (show R.rel (rTO K) G10 (V.int (7 : Int)) (Sum.inr (PyData.int (7 : Int))) from rTO_inr (show (rAny K).rel G10 (V.int (7 : Int)) (PyData.int (7 : Int)) from any_of (dInt (K := K)) (show R.rel rInt G10 (V.int (7 : Int)) (7 : Int) from rfl)) rfl)
    have h37 := R.up e11 h30
    have h38 := R.up e11 h27
    have E11 := E10.trans e11
    have h39 : Al (rTO K) G11 [(V.str (e_T ([] : Wrd))), V.non, (V.int (0 : Int)), (V.int (7 : Int)), (V.ref a4), v5, (V.str (e_T t6)), v6] [(Sum.inl ([] : Wrd) : TxO), (Sum.inr PyData.none : TxO), (Sum.inr (PyData.int (0 : Int)) : TxO), (Sum.inr (PyData.int (7 : Int)) : TxO), (Sum.inr (PyData.list (([([97] : Wrd)] : List Wrd).map fun z => (PyData.str (e_T z)))) : TxO), (Sum.inr (PyData.tuple [(PyData.str (e_T (([97] : Wrd), ([97] : Wrd)).1)), (PyData.str (e_T (([97] : Wrd), ([97] : Wrd)).2))]) : TxO), (Sum.inl t6 : TxO), (Sum.inr (PyData.list (z5.map fun z => (PyData.str (e_T z)))) : TxO)] := ⟨h33, h34, h35, h36, (show R.rel (rTO K) G11 (V.ref a4) (Sum.inr (PyData.list (([([97] : Wrd)] : List Wrd).map fun z => (PyData.str (e_T z))))) from rTO_inr (show (rAny K).rel G11 (V.ref a4) (PyData.list (([([97] : Wrd)] : List Wrd).map fun z => (PyData.str (e_T z)))) from any_of (dM (dTx (K := K))) (show R.rel (rM rTx) G11 (V.ref a4) ([([97] : Wrd)] : List Wrd) from h31)) rfl), (show R.rel (rTO K) G11 v5 (Sum.inr (PyData.tuple [(PyData.str (e_T (([97] : Wrd), ([97] : Wrd)).1)), (PyData.str (e_T (([97] : Wrd), ([97] : Wrd)).2))])) from rTO_inr (show (rAny K).rel G11 v5 (PyData.tuple [(PyData.str (e_T (([97] : Wrd), ([97] : Wrd)).1)), (PyData.str (e_T (([97] : Wrd), ([97] : Wrd)).2))]) from any_of (dP2 (dTx (K := K)) (dTx (K := K))) (show R.rel (rP2 K rTx rTx) G11 v5 (([97] : Wrd), ([97] : Wrd)) from h37)) rfl), (rTO_inl : R.rel (rTO K) G11 (V.str (e_T t6)) (Sum.inl t6)), (show R.rel (rTO K) G11 v6 (Sum.inr (PyData.list (z5.map fun z => (PyData.str (e_T z))))) from rTO_inr (show (rAny K).rel G11 v6 (PyData.list (z5.map fun z => (PyData.str (e_T z)))) from any_of (dM (dTx (K := K))) (show R.rel (rM rTx) G11 v6 z5 from h38)) rfl), True.intro⟩
    refine q_lst S17 h39 (by show 8 ≤ 100000; decide) (fun a5 H14 w9 S18 h40 => ?_)
    obtain ⟨G12, e12, S19, h41⟩ := frz_M S18 h40
    have h42 := Al.up e12 h32
    have E12 := E11.trans e12
    refine gRet ?_
    obtain ⟨⟨x1, bag_here8⟩, hq23, hm23⟩ := bindS hm16
    dsimp only at hm23
    refine gCE (fun (v : V) (H : Hp) => ∃ (G : Hp) (w12 : List V), Ext G12 G ∧ Sub G ((a1, HO.lst w12) :: (a3, HO.lst w5) :: O) H ∧ R.rel (rTO K) G v x1 ∧ Al rInt G w12 bag_here8) ?_ ?_
    · skip
      refine gIf ?_
      refine gTest ?_
      refine gOp ?_
      refine gCall ?_
      refine gCons' ?_
      refine gV rfl ?_
      refine gCons' ?_
      refine gC ?_
      refine gNil' ?_
      obtain ⟨⟨r7, bag_here9⟩, hq24, hm24⟩ := bindS hq23
      dsimp only at hm24
      refine ⟨G12, ((a3, HO.lst w5) :: O), a1, w8, bag_here5, (2 : Int), rfl, S19, h42, (r7, bag_here9), hq24, fun G15 H17 w13 e15 S22 h48 => ?_⟩
      have h49 := R.up e15 h41
      have E15 := E12.trans e15
      refine gC ?_
      refine ⟨_, _, rfl, rfl, ?_⟩
      refine ⟨(decide (r7 = (0 : Int))), rfl, ?_⟩
      refine ite2 (fun c1 => ?_) (fun c1 => ?_)
      · skip
        have hm25 := (if_pos c1).symm.trans hm24
        refine gOp ?_
        refine gOp ?_
        refine gSl ?_
        refine gV rfl ?_
        refine gNoPart ?_
        refine gPart ?_
        refine gV rfl ?_
        refine ⟨_, rfl, ?_⟩
        obtain ⟨t11, hq25, hm26⟩ := bindS hm25
        refine q_slT hq25 ?_
        refine gV rfl ?_
        obtain ⟨t12, hq26, hm27⟩ := bindS hm26
        refine q_catT hq26 ?_
        refine gSl ?_
        refine gV rfl ?_
        refine gPart ?_
        refine gV rfl ?_
        refine ⟨_, rfl, ?_⟩
        refine gNoPart ?_
        obtain ⟨t13, hq27, hm28⟩ := bindS hm27
        refine q_slT hq27 ?_
        obtain ⟨t14, hq28, hm29⟩ := bindS hm28
        refine q_catT hq28 ?_
        cases hm29
        exact ⟨G15, w13, e15, S22, (rTO_inl : R.rel (rTO K) G15 (V.str (e_T t14)) (Sum.inl t14)), h48⟩
      · skip
        have hm30 := (if_neg c1).symm.trans hm24
        refine gCall ?_
        refine gCons' ?_
        refine gV rfl ?_
        refine gCons' ?_
        refine gV rfl ?_
        refine gNil' ?_
        obtain ⟨⟨r8, bag_here10⟩, hq29, hm31⟩ := bindS hm30
        dsimp only at hm31
        refine ⟨G15, ((a3, HO.lst w5) :: O), a1, w13, bag_here9, (V.ref a5), ([(Sum.inl ([] : Wrd) : TxO), (Sum.inr PyData.none : TxO), (Sum.inr (PyData.int (0 : Int)) : TxO), (Sum.inr (PyData.int (7 : Int)) : TxO), (Sum.inr (PyData.list (([([97] : Wrd)] : List Wrd).map fun z => (PyData.str (e_T z)))) : TxO), (Sum.inr (PyData.tuple [(PyData.str (e_T (([97] : Wrd), ([97] : Wrd)).1)), (PyData.str (e_T (([97] : Wrd), ([97] : Wrd)).2))]) : TxO), (Sum.inl t6 : TxO), (Sum.inr (PyData.list (z5.map fun z => (PyData.str (e_T z)))) : TxO)] : List TxO), rfl, S22, h48, h49, (r8, bag_here10), hq29, fun v8 G16 H18 w14 e16 S23 h50 h51 => ?_⟩
        have h52 := R.up e16 h49
        have E16 := E15.trans e16
        cases hm31
        exact ⟨G16, w14, (e15.trans e16), S23, h50, h51⟩
    · intro v9 H19 hJ
      obtain ⟨G17, w15, e17, S24, h53, h54⟩ := hJ
      have h55 := R.up e17 h41
      have E17 := E12.trans e17
      have S25 : Sub G17 ((a3, HO.lst w5) :: (a1, HO.lst w15) :: O) H19 := S24.front 1 rfl rfl
      have S26 := S25.tail
      cases hm23
      exact q v9 G17 H19 w15 E17 S26 h53 h54
end
end Mr

set_option Elab.async false
set_option linter.all false
set_option maxRecDepth 100000
set_option maxHeartbeats 4000000
set_option synthInstance.maxSize 4000
set_option synthInstance.maxHeartbeats 400000
namespace Mr
open PySem PySem.Spec PyProof.Rows L2 GFr
section
variable {P : Program} {w : World} {K : PySem.W.Frag} {mg : Str → Option Value} {base : Heap}
theorem sc_law_word_stands : FnScope ["_law_face", "_law_inks", "_law_table_here", "_law_word_here", "_law_due", "_law_told", "_law_wide", "_law_marks", "_law_each", "_law_k", "_law_stamp"] ["_law_face", "_law_inks", "_law_table_here", "_law_word_here"] (defScope s_law_word_stands) := ⟨rfl, rfl, rfl, by decide +kernel, rfl, by decide +kernel, by decide +kernel⟩
theorem ok_law_word_stands (T : Tx K mg) : FnOk P w K mg base CX0 9 (He.fAd K ("_law_word_stands", none)) T.fd_law_word_stands ["_law_face", "_law_inks", "_law_table_here", "_law_word_here"] (sp_law_word_stands K) := by
  have G_law_columns := ok_law_columns (P := P) (w := w) (base := base) T
  have G_law_number := ok_law_number (P := P) (w := w) (base := base) T
  have G_law_step := ok_law_step (P := P) (w := w) (base := base) T
  have G_columns := ok_columns (P := P) (w := w) (base := base) T
  have G_is_word := ok_is_word (P := P) (w := w) (base := base) T
  have G_stamps := ok_stamps (P := P) (w := w) (base := base) T
  have G_width := ok_width (P := P) (w := w) (base := base) T
  refine T.F_law_word_stands.ok sc_law_word_stands (fun vs H Q E h => ?_) (fun cdv A outer s H0 vs Q E hr h => ?_)
  · obtain ⟨G, O, v1, face1, v2, inks1, v3, table_here1, word_here1, rfl, _⟩ := h
    rfl
  · obtain ⟨G0, O, v1, face1, v2, inks1, v3, table_here1, word_here1, rfl, S0, h1, h2, h3, res, hm, q⟩ := h
    refine ⟨_, PSs.nox (pss_cons (ps_set (i := 4) sc_law_word_stands.nd rfl (.inl rfl) (pe_call G_law_columns (hr.mono (by decide)) (by rfl) T.g_law_columns T.F_law_columns.kp T.b_law_columns .nil pass0 (pa_cons (pv 1) (pa_cons (pv 2) (pa_cons (pv 3) pa_nil)))))
      (pss_cons (ps_par3 (i := 5) (j := 6) (l := 7) (by rfl) sc_law_word_stands.nd rfl rfl rfl (by decide) (by decide) (by decide) rfl rfl rfl (pa_cons (pe_call G_columns (hr.mono (by decide)) (by rfl) T.g_columns T.F_columns.kp T.b_columns .nil pass0 (pa_cons (pv 0) (pa_cons (pv 3) pa_nil))) (pa_cons (pe_call G_width (hr.mono (by decide)) (by rfl) T.g_width T.F_width.kp T.b_width .nil pass0 (pa_cons (pv 0) (pa_cons (pv 3) pa_nil))) (pa_cons (pe_call G_stamps (hr.mono (by decide)) (by rfl) T.g_stamps T.F_stamps.kp T.b_stamps .nil pass0 (pa_cons (pv 0) (pa_cons (pv 3) pa_nil))) pa_nil))) (by rfl))
      (pss_cons (ps_if (pt_cut (PW.pt (pw_or (pt_not (pt_val (pe_callB (r := rIsi K) call_isi (by rfl) T.z_isinstance boot_isinstance (pa_cons (pv 5) (pa_cons (pe_bltn (v := .ty "list") (by rfl) T.z_list boot_list rfl) pa_nil))))) (pw_or (pt_cmpR (op_neD hr.units) (pv 5) (pv 4) (nomark _)) (pw_or1 (pt_not (pt_val (pe_cut (pe_callB (cr_all rfl) (by rfl) T.z_all boot_all (pa_cons (pe_lc (own := [("_law_each", 8)]) (g := gName 8) (by rfl) sc_law_word_stands.nd (pi_list (pv 5)) (blkOk_by (own := [("_law_each", 8)]) (N := ["_law_face", "_law_inks", "_law_table_here", "_law_word_here", "_law_due", "_law_told", "_law_wide", "_law_marks", "_law_each", "_law_k", "_law_stamp"]) (sc := defScope s_law_word_stands) (by decide +kernel)) (fun _ _ _ _ _ => (pg_name (i := 8) sc_law_word_stands.nd rfl (.inl rfl))) (fun _ _ _ _ _ => pts_nil) (fun _ _ _ _ _ => (pe_call G_law_number (hr.mono (by decide)) (by rfl) T.g_law_number T.F_law_number.kp T.b_law_number .nil pass0 (pa_cons (pv 8) pa_nil)))) pa_nil)))))))))) (pss_one (ps_ret pe_bl)) pss_nil)
      (pss_cons (ps_if (pt_cut (PW.pt (pw_or (pt_not (pt_val (pe_call G_law_number (hr.mono (by decide)) (by rfl) T.g_law_number T.F_law_number.kp T.b_law_number .nil pass0 (pa_cons (pv 6) pa_nil)))) (pw_or1 (pt_cmpR op_neI (pv 6) (pe_op op_add (pe_ix ix_list (pv 4) (pe_un un_neg pe_int) (fun _ _ => rfl)) (pe_call G_law_step (hr.mono (by decide)) (by rfl) T.g_law_step T.F_law_step.kp T.b_law_step .nil pass0 (pa_cons (pe_ix ix_list (pv 1) (pe_m1 PySem.F.slot_str_index PySem.F.type_str_index mt_sidx (pe_strT (l := ([97, 98, 99, 100] : Wrd)) (by decide +kernel)) (pe_ix ix_str (pv 3) (pe_un un_neg pe_int) (fun _ _ => rfl))) (fun _ _ => rfl)) pa_nil))) (nomark _)))))) (pss_one (ps_ret pe_bl)) pss_nil)
      (pss_cons (ps_if (pt_cut (PW.pt (pw_or (pt_not (pt_val (pe_callB (r := rIsi K) call_isi (by rfl) T.z_isinstance boot_isinstance (pa_cons (pv 7) (pa_cons (pe_bltn (v := .ty "tuple") (by rfl) T.z_tuple boot_tuple rfl) pa_nil))))) (pw_or (pt_cmpR op_neI (pe_callB (r := rLenM K) call_lenM (by rfl) T.z_len boot_len (pa_cons (pv 7) pa_nil)) (pe_callB (r := rLenS) call_lenS (by rfl) T.z_len boot_len (pa_cons (pv 3) pa_nil)) (nomark _)) (pw_or1 (pt_cmpR op_notBl (pe_call G_is_word (hr.mono (by decide)) (by rfl) T.g_is_word T.F_is_word.kp T.b_is_word .nil pass0 (pa_cons (pv 0) (pa_cons (pv 3) pa_nil))) pe_bl (nomark _))))))) (pss_one (ps_ret pe_bl)) pss_nil)
      (pss_cons (ps_cut (ps_for PassesOwn.never rfl (pi_enumQ (by rfl) T.z_enumerate (pa_cons (pv 7) pa_nil)) (pg_tup rfl (pgs_cons (pg_name (i := 9) sc_law_word_stands.nd rfl (.inl rfl)) (pgs_cons (pg_name (i := 10) sc_law_word_stands.nd rfl (.inl rfl)) pgs_nil)))
      (pss_one (ps_if (pt_cut (PW.pt (pw_or (pt_not (pt_val (pe_callB (r := rIsi K) call_isi (by rfl) T.z_isinstance boot_isinstance (pa_cons (pv 10) (pa_cons (pe_bltn (v := .ty "tuple") (by rfl) T.z_tuple boot_tuple rfl) pa_nil))))) (pw_or1 (pt_cmpR (op_neD hr.units) (pv 10) (pe_tup (pa_cons (pe_ix ix_list (pv 1) (pe_m1 PySem.F.slot_str_index PySem.F.type_str_index mt_sidx (pe_strT (l := ([97, 98, 99, 100] : Wrd)) (by decide +kernel)) (pe_ix ix_str (pv 3) (pv 9) (fun _ _ => rfl))) (fun _ _ => rfl)) (pa_cons (pe_ix ix_list (pv 4) (pv 9) (fun _ _ => rfl)) pa_nil))) (nomark _)))))) (pss_one (ps_ret pe_bl)) pss_nil))))
      (pss_cons (ps_expr (pe_bm PySem.F.plainAttrs_list PySem.F.slot_list_append PySem.F.type_list_append mt_append (pv 5) (pa_cons pe_int pa_nil)))
      (pss_one (ps_ret (pe_cmpR (op_eqD hr.units) (pe_call G_columns (hr.mono (by decide)) (by rfl) T.g_columns T.F_columns.kp T.b_columns .nil pass0 (pa_cons (pv 0) (pa_cons (pv 3) pa_nil))) (pv 4) (nomark _))))))))))), ?_⟩
    have E0 := Ext.refl G0
    have hm0 : (Option.bind (m_law_columns inks1 table_here1 word_here1) fun r1 =>
  Option.bind (m_columns face1 word_here1) fun r2 =>
  Option.bind (m_width face1 word_here1) fun r3 =>
  Option.bind (m_stamps face1 word_here1) fun r4 =>
  Option.bind (if (!true) then some true else (if (!decide (r2 = r1)) then some true else (Option.bind (Option.bind (folM (m_law_word_stands_c1) r2 ([] : (List Bool))) fun acc7 =>
  some (acc7.all id)) fun x5 =>
  some (!x5)))) fun x7 =>
  if x7 then (some false)
  else (Option.bind (Option.bind (m_law_number r3) fun r22 =>
  if (!r22) then some true else (Option.bind (getM r1 (-(1 : Int))) fun x14 =>
  Option.bind (getT word_here1 (-(1 : Int))) fun t1 =>
  Option.bind (idxA ([97, 98, 99, 100] : Wrd) t1) fun k9 =>
  Option.bind (getM inks1 k9) fun x15 =>
  Option.bind (m_law_step x15) fun r23 =>
  some (!decide (r3 = (x14 + r23))))) fun x16 =>
  if x16 then (some false)
  else (Option.bind (if (!true) then some true else (Option.bind (lenT word_here1) fun k11 =>
  if (!decide ((r4.length : Int) = k11)) then some true else (Option.bind (m_is_word face1 word_here1) fun r27 =>
  some (!decide (r27 = true))))) fun x19 =>
  if x19 then (some false)
  else (Option.bind (forL (m_law_word_stands_b2 inks1 word_here1 r1) (enumM r4) ()) fun res => match res with
  | Fl.rt r => some r
  | Fl.nx _ => Option.bind (appM r2 (0 : Int)) fun told1 =>
  Option.bind (m_columns face1 word_here1) fun r29 =>
  some (decide (r29 = r1)))))) = some res := hm
    refine gS_AsgN ?_
    refine gCall ?_
    refine gCons' ?_
    refine gV rfl ?_
    refine gCons' ?_
    refine gV rfl ?_
    refine gCons' ?_
    refine gV rfl ?_
    refine gNil' ?_
    obtain ⟨r1, hq1, hm1⟩ := bindS hm0
    refine ⟨G0, (O), v2, inks1, v3, table_here1, word_here1, rfl, S0, h2, h3, r1, hq1, fun v4 G1 H1 e1 S1 h4 => ?_⟩
    have h5 := R.up e1 h1
    have h6 := R.up e1 h2
    have h7 := R.up e1 h3
    have E1 := E0.trans e1
    refine gS_Par3 ?_
    refine gCons' ?_
    refine gCall ?_
    refine gCons' ?_
    refine gV rfl ?_
    refine gCons' ?_
    refine gV rfl ?_
    refine gNil' ?_
    obtain ⟨r2, hq2, hm2⟩ := bindS hm1
    refine ⟨G1, (O), v1, face1, word_here1, rfl, S1, h5, r2, hq2, fun a1 w1 G2 H2 e2 S2 h8 => ?_⟩
    have h9 := R.up e2 h5
    have h10 := R.up e2 h6
    have h11 := R.up e2 h7
    have h12 := R.up e2 h4
    have E2 := E1.trans e2
    refine gCons' ?_
    refine gCall ?_
    refine gCons' ?_
    refine gV rfl ?_
    refine gCons' ?_
    refine gV rfl ?_
    refine gNil' ?_
    obtain ⟨r3, hq3, hm3⟩ := bindS hm2
    refine ⟨G2, ((a1, HO.lst w1) :: O), v1, face1, word_here1, rfl, S2, h9, r3, hq3, fun G3 H3 e3 S3 => ?_⟩
    have h13 := R.up e3 h9
    have h14 := R.up e3 h10
    have h15 := R.up e3 h11
    have h16 := R.up e3 h12
    have h17 := Al.up e3 h8
    have E3 := E2.trans e3
    refine gCons' ?_
    refine gCall ?_
    refine gCons' ?_
    refine gV rfl ?_
    refine gCons' ?_
    refine gV rfl ?_
    refine gNil' ?_
    obtain ⟨r4, hq4, hm4⟩ := bindS hm3
    refine ⟨G3, ((a1, HO.lst w1) :: O), v1, face1, word_here1, rfl, S3, h13, r4, hq4, fun v5 G4 H4 e4 S4 h18 => ?_⟩
    have h19 := R.up e4 h13
    have h20 := R.up e4 h14
    have h21 := R.up e4 h15
    have h22 := R.up e4 h16
    have h23 := Al.up e4 h17
    have E4 := E3.trans e4
    refine gNil' ?_
    refine ⟨_, _, _, rfl, ?_⟩
    refine gS_IfS ?_
    obtain ⟨x7, hq23, hm27⟩ := bindS hm4
    refine gCT (fun (b : Bool) (H : Hp) => ∃ (G : Hp), Ext G4 G ∧ Sub G ((a1, HO.lst w1) :: O) H ∧ b = x7) ?_ ?_
    · skip
      refine gOr ?_
      refine gNot ?_
      refine gB ?_
      refine gCB ?_
      refine gCons' ?_
      refine gV rfl ?_
      refine gCons' ?_
      refine gC ?_
      refine gNil' ?_
      have h208 := rM_own S4 h23
      refine q_isi (ty_L (rM_L (K := K) h208)) (by decide +kernel : kitB "list" "list" = some true) ?_
      refine ⟨true, rfl, ?_⟩
      refine ite2 (fun c1 => ?_) (fun c1 => ?_)
      · skip
        have hm28 := (if_pos c1).symm.trans hq23
        cases hm28
        exact ⟨G4, (Ext.refl _), S4, rfl⟩
      · skip
        have hm29 := (if_neg c1).symm.trans hq23
        refine gOr ?_
        refine gTest ?_
        refine gOp ?_
        refine gV rfl ?_
        refine gV rfl ?_
        have h209 := rM_own S4 h23
        refine q_neD (dM (dInt (K := K))) (by show 2 ≤ 64; decide) h209 (R.up S4.ext h22) ((okM okI) _) ((okM okI) _) ?_
        refine ⟨(!decide (r2 = r1)), rfl, ?_⟩
        refine ite2 (fun c2 => ?_) (fun c2 => ?_)
        · skip
          have hm30 := (if_pos c2).symm.trans hm29
          cases hm30
          exact ⟨G4, (Ext.refl _), S4, rfl⟩
        · skip
          have hm31 := (if_neg c2).symm.trans hm29
          refine gNot ?_
          refine gB ?_
          obtain ⟨x12, hq37, hm48⟩ := bindS hm31
          refine gCE (fun (v : V) (H : Hp) => Sub G4 ((a1, HO.lst w1) :: O) H ∧ v = V.bl x12) ?_ ?_
          · skip
            have e47 : Ext G4 (upd G4 a1 (HO.lst w1)) := Sub.extFrz S4
            have S57 : Sub (upd G4 a1 (HO.lst w1)) (O) H4 := Sub.frz S4
            have h345 := rM_lent S4 h23
            have h346 := R.up e47 h19
            have h347 := R.up e47 h20
            have h348 := R.up e47 h21
            have h349 := R.up e47 h22
            have h350 := R.up e47 h18
            have E47 := E4.trans e47
            refine gCB ?_
            refine gCons' ?_
            refine gLc ?_
            refine gIL ?_
            refine gV rfl ?_
            obtain ⟨acc22, hq39, hm50⟩ := bindS hq37
            refine lc_L (r := rInt) S57 (rM_L (K := K) h345) hq39 (fun (D : Addr) (s : (List Bool)) (H : Hp) => ∃ (G : Hp) (w30 : List V), Ext (upd G4 a1 (HO.lst w1)) G ∧ Sub G ((D, HO.lst w30) :: O) H ∧ Al rBool G w30 s) ?_ ?_ ?_ ?_
            · intro D22 nD8
              exact ⟨(upd G4 a1 (HO.lst w1)), [], Ext.refl _, S57.newOwn nD8, True.intro⟩
            · intro D s H hI
              obtain ⟨G, k8, ie, iS, _⟩ := hI
              exact ie.trans iS.ext
            · intro D23 i8 x13 acc23 s16 hb8 hr8 v16 H44 hI15 h358
              obtain ⟨G45, w31, e49, S59, h359⟩ := hI15
              have h360 := R.up e49 h346
              have h361 := R.up e49 h347
              have h362 := R.up e49 h348
              have h363 := R.up e49 h349
              have h364 := R.up e49 h345
              have h365 := R.up e49 h350
              have h366 := R.up e49 (rM_L (K := K) h345)
              have E49 := E47.trans e49
              obtain rfl := (show v16 = (V.int x13) from h358)
              refine ⟨rfl, ?_⟩
              have hm51 : (Option.bind (m_law_number x13) fun r20 =>   Option.bind (appM acc23 r20) fun acc24 =>   some acc24) = some s16 := hb8
              refine gYes ?_
              refine iteT ?_
              refine gCall ?_
              refine gCons' ?_
              refine gV rfl ?_
              refine gNil' ?_
              obtain ⟨r20, hq40, hm52⟩ := bindS hm51
              refine ⟨G45, ((D23, HO.lst w31) :: O), x13, rfl, S59, r20, hq40, fun G46 H45 e50 S60 => ?_⟩
              have h367 := R.up e50 h360
              have h368 := R.up e50 h361
              have h369 := R.up e50 h362
              have h370 := R.up e50 h363
              have h371 := R.up e50 h364
              have h372 := R.up e50 h365
              have h373 := R.up e50 h366
              have h374 := Al.up e50 h359
              have E50 := E49.trans e50
              obtain ⟨acc24, hq41, hm53⟩ := bindS hm52
              refine q_lcEl S60 h374 (show R.rel rBool G46 (V.bl r20) r20 from rfl) hq41 (fun H46 w32 S61 h375 => ?_)
              cases hm53
              exact ⟨_, ⟨G46, w32, (e49.trans e50), S61, h375⟩, hr8⟩
            · intro D24 H47 hI16
              obtain ⟨G47, w33, e51, S62, h376⟩ := hI16
              have h377 := R.up e51 h346
              have h378 := R.up e51 h347
              have h379 := R.up e51 h348
              have h380 := R.up e51 h349
              have h381 := R.up e51 h345
              have h382 := R.up e51 h350
              have E51 := E47.trans e51
              refine gNil' ?_
              obtain ⟨G48, e52, S63, h383⟩ := frz_M S62 h376
              have h384 := R.up e52 h377
              have h385 := R.up e52 h378
              have h386 := R.up e52 h379
              have h387 := R.up e52 h380
              have h388 := R.up e52 h381
              have h389 := R.up e52 h382
              have E52 := E51.trans e52
              refine q_all S63 h383 ?_
              cases hm50
              exact ⟨Sub.thaw S4 (e51.trans e52) S63, rfl⟩
          · rintro v17 H48 ⟨S64, rfl⟩
            refine ⟨x12, rfl, ?_⟩
            cases hm48
            exact ⟨G4, (Ext.refl _), S64, rfl⟩
    · intro b1 H49 hJ
      obtain ⟨G49, e53, S65, rfl⟩ := hJ
      have h390 := R.up e53 h19
      have h391 := R.up e53 h20
      have h392 := R.up e53 h21
      have h393 := R.up e53 h22
      have h394 := Al.up e53 h23
      have h395 := R.up e53 h18
      have E53 := E4.trans e53
      refine ite2 (fun c3 => ?_) (fun c3 => ?_)
      · skip
        have hm54 := (if_pos c3).symm.trans hm27
        refine gRet ?_
        refine gC ?_
        have S66 := S65.tail
        cases hm54
        exact q G49 H49 E53 S66
      · skip
        have hm55 := (if_neg c3).symm.trans hm27
        refine gNext ?_
        refine gE ?_
        refine gS_IfS ?_
        obtain ⟨x16, hq49, hm63⟩ := bindS hm55
        refine gCT (fun (b : Bool) (H : Hp) => ∃ (G : Hp), Ext G49 G ∧ Sub G ((a1, HO.lst w1) :: O) H ∧ b = x16) ?_ ?_
        · skip
          refine gOr ?_
          refine gNot ?_
          refine gB ?_
          refine gCall ?_
          refine gCons' ?_
          refine gV rfl ?_
          refine gNil' ?_
          obtain ⟨r25, hq51, hm65⟩ := bindS hq49
          refine ⟨G49, ((a1, HO.lst w1) :: O), r3, rfl, S65, r25, hq51, fun G54 H54 e58 S71 => ?_⟩
          have h422 := R.up e58 h390
          have h423 := R.up e58 h391
          have h424 := R.up e58 h392
          have h425 := R.up e58 h393
          have h426 := Al.up e58 h394
          have h427 := R.up e58 h395
          have E58 := E53.trans e58
          refine ⟨r25, rfl, ?_⟩
          refine ite2 (fun c4 => ?_) (fun c4 => ?_)
          · skip
            have hm66 := (if_pos c4).symm.trans hm65
            cases hm66
            exact ⟨G54, e58, S71, rfl⟩
          · skip
            have hm67 := (if_neg c4).symm.trans hm65
            refine gTest ?_
            refine gOp ?_
            refine gV rfl ?_
            refine gOp ?_
            refine gOp ?_
            refine gV rfl ?_
            refine gUn ?_
            refine gC ?_
            refine ⟨_, rfl, ?_⟩
            obtain ⟨x17, hq52, hm68⟩ := bindS hm67
            refine q_ixL S71 (rM_L (K := K) h425) hq52 (fun v20 h428 => ?_)
            obtain rfl := (show v20 = (V.int x17) from h428)
            refine gCall ?_
            refine gCons' ?_
            refine gOp ?_
            refine gV rfl ?_
            refine gM1 ?_
            refine gC ?_
            refine ⟨⟨_, rfl⟩, ?_⟩
            refine gOp ?_
            refine gV rfl ?_
            refine gUn ?_
            refine gC ?_
            refine ⟨_, rfl, ?_⟩
            obtain ⟨t2, hq53, hm69⟩ := bindS hm68
            refine q_ixTx hq53 ?_
            obtain ⟨k10, hq54, hm70⟩ := bindS hm69
            refine q_idxA hq54 ?_
            obtain ⟨x18, hq55, hm71⟩ := bindS hm70
            refine q_ixL S71 (rM_L (K := K) h423) hq55 (fun v21 h429 => ?_)
            refine gNil' ?_
            obtain ⟨r26, hq56, hm72⟩ := bindS hm71
            refine ⟨G54, ((a1, HO.lst w1) :: O), v21, x18, rfl, S71, h429, r26, hq56, fun G55 H55 e59 S72 => ?_⟩
            have h430 := R.up e59 h422
            have h431 := R.up e59 h423
            have h432 := R.up e59 h424
            have h433 := R.up e59 h425
            have h434 := Al.up e59 h426
            have h435 := R.up e59 h427
            have E59 := E58.trans e59
            refine ⟨_, _, rfl, rfl, ?_⟩
            refine ⟨_, _, rfl, rfl, ?_⟩
            refine ⟨(!decide (r3 = (x17 + r26))), rfl, ?_⟩
            cases hm72
            exact ⟨G55, (e58.trans e59), S72, rfl⟩
        · intro b2 H56 hJ
          obtain ⟨G56, e60, S73, rfl⟩ := hJ
          have h436 := R.up e60 h390
          have h437 := R.up e60 h391
          have h438 := R.up e60 h392
          have h439 := R.up e60 h393
          have h440 := Al.up e60 h394
          have h441 := R.up e60 h395
          have E60 := E53.trans e60
          refine ite2 (fun c5 => ?_) (fun c5 => ?_)
          · skip
            have hm73 := (if_pos c5).symm.trans hm63
            refine gRet ?_
            refine gC ?_
            have S74 := S73.tail
            cases hm73
            exact q G56 H56 E60 S74
          · skip
            have hm74 := (if_neg c5).symm.trans hm63
            refine gNext ?_
            refine gE ?_
            refine gS_IfS ?_
            obtain ⟨x19, hq59, hm77⟩ := bindS hm74
            refine gCT (fun (b : Bool) (H : Hp) => ∃ (G : Hp), Ext G56 G ∧ Sub G ((a1, HO.lst w1) :: O) H ∧ b = x19) ?_ ?_
            · skip
              refine gOr ?_
              refine gNot ?_
              refine gB ?_
              refine gCB ?_
              refine gCons' ?_
              refine gV rfl ?_
              refine gCons' ?_
              refine gC ?_
              refine gNil' ?_
              refine q_isi (ty_T (R.up S73.ext h441)) (by decide +kernel : kitB "tuple" "tuple" = some true) ?_
              refine ⟨true, rfl, ?_⟩
              refine ite2 (fun c6 => ?_) (fun c6 => ?_)
              · skip
                have hm78 := (if_pos c6).symm.trans hq59
                cases hm78
                exact ⟨G56, (Ext.refl _), S73, rfl⟩
              · skip
                have hm79 := (if_neg c6).symm.trans hq59
                refine gOr ?_
                refine gTest ?_
                refine gOp ?_
                refine gCB ?_
                refine gCons' ?_
                refine gV rfl ?_
                refine gNil' ?_
                refine q_lenT S73 h441 ?_
                refine gCB ?_
                refine gCons' ?_
                refine gV rfl ?_
                refine gNil' ?_
                obtain ⟨k12, hq60, hm80⟩ := bindS hm79
                refine q_lenT' hq60 ?_
                refine ⟨_, _, rfl, rfl, ?_⟩
                refine ⟨(!decide ((r4.length : Int) = k12)), rfl, ?_⟩
                refine ite2 (fun c7 => ?_) (fun c7 => ?_)
                · skip
                  have hm81 := (if_pos c7).symm.trans hm80
                  cases hm81
                  exact ⟨G56, (Ext.refl _), S73, rfl⟩
                · skip
                  have hm82 := (if_neg c7).symm.trans hm80
                  refine gTest ?_
                  refine gOp ?_
                  refine gCall ?_
                  refine gCons' ?_
                  refine gV rfl ?_
                  refine gCons' ?_
                  refine gV rfl ?_
                  refine gNil' ?_
                  obtain ⟨r28, hq61, hm83⟩ := bindS hm82
                  refine ⟨G56, ((a1, HO.lst w1) :: O), v1, face1, word_here1, rfl, S73, h436, r28, hq61, fun G58 H58 e62 S76 => ?_⟩
                  have h448 := R.up e62 h436
                  have h449 := R.up e62 h437
                  have h450 := R.up e62 h438
                  have h451 := R.up e62 h439
                  have h452 := Al.up e62 h440
                  have h453 := R.up e62 h441
                  have E62 := E60.trans e62
                  refine gC ?_
                  refine ⟨_, _, rfl, rfl, ?_⟩
                  refine ⟨(!decide (r28 = true)), rfl, ?_⟩
                  cases hm83
                  exact ⟨G58, e62, S76, rfl⟩
            · intro b3 H59 hJ
              obtain ⟨G59, e63, S77, rfl⟩ := hJ
              have h454 := R.up e63 h436
              have h455 := R.up e63 h437
              have h456 := R.up e63 h438
              have h457 := R.up e63 h439
              have h458 := Al.up e63 h440
              have h459 := R.up e63 h441
              have E63 := E60.trans e63
              refine ite2 (fun c8 => ?_) (fun c8 => ?_)
              · skip
                have hm84 := (if_pos c8).symm.trans hm77
                refine gRet ?_
                refine gC ?_
                have S78 := S77.tail
                cases hm84
                exact q G59 H59 E63 S78
              · skip
                have hm85 := (if_neg c8).symm.trans hm77
                refine gNext ?_
                refine gE ?_
                obtain ⟨res1, hl1, hm86⟩ := bindS hm85
                refine gS_CS (fun (σ : L2.St) (H : Hp) => ∃ s : Unit, res1 = Fl.nx s ∧ ∃ (G : Hp) (y1 : Option V) (y2 : Option V) (y3 : Option V), Ext G59 G ∧ Sub G ((a1, HO.lst w1) :: O) H ∧ σ = [some v1, some v2, some v3, some (V.str (e_T word_here1)), some v4, some (V.ref a1), some (V.int r3), some v5, y1, y2, y3]) ?_ ?_
                · skip
                  refine gFor ?_
                  refine gIE ?_
                  refine gCons' ?_
                  refine gV rfl ?_
                  refine gNil' ?_
                  refine lp_EQ (r := (rP2 K (rT K (rEn e_Ink)) rInt)) S77 (rT_Q h459) hl1 (fun (s : Unit) (σ : L2.St) (H : Hp) => ∃ (G : Hp) (y1 : Option V) (y2 : Option V) (y3 : Option V), Ext G59 G ∧ Sub G ((a1, HO.lst w1) :: O) H ∧ σ = [some v1, some v2, some v3, some (V.str (e_T word_here1)), some v4, some (V.ref a1), some (V.int r3), some v5, y1, y2, y3]) ⟨G59, _, _, _, (Ext.refl _), S77, rfl⟩ ?_ ?_ ?_
                  · intro s σ H hI
                    obtain ⟨G, k13, k14, k15, ie, iS, _⟩ := hI
                    exact ie.trans iS.ext
                  · intro i9 x20 s17 b4 hb9 hr9 v22 σ1 H60 H61 hI17 hS1 h460
                    obtain ⟨G60, y4, y5, y6, e64, S79, rfl⟩ := hI17
                    have h461 := R.up e64 h454
                    have h462 := R.up e64 h455
                    have h463 := R.up e64 h456
                    have h464 := R.up e64 h457
                    have h465 := Al.up e64 h458
                    have h466 := R.up e64 h459
                    have h467 := R.up e64 h459
                    have E64 := E63.trans e64
                    have S80 := hS1 _ _ S79
                    generalize ((i9 : Nat) : Int) = k16 at hb9 ⊢
                    have h468 := R.up e64 h460
                    have hm87 : (Option.bind (if (!true) then some true else (Option.bind (getT word_here1 k16) fun t3 =>   Option.bind (idxA ([97, 98, 99, 100] : Wrd) t3) fun k17 =>   Option.bind (getM inks1 k17) fun x21 =>   Option.bind (getM r1 k16) fun x22 =>   some (!decide (x20 = (x21, x22))))) fun x23 =>   if x23 then (some (Bf.rt false))   else (some (Bf.go ()))) = some b4 := hb9
                    refine gIfS ?_
                    obtain ⟨x23, hq66, hm92⟩ := bindS hm87
                    refine gCT (fun (b : Bool) (H : Hp) => ∃ (G : Hp), Ext G60 G ∧ Sub G ((a1, HO.lst w1) :: O) H ∧ b = x23) ?_ ?_
                    · skip
                      refine gOr ?_
                      refine gNot ?_
                      refine gB ?_
                      refine gCB ?_
                      refine gCons' ?_
                      refine gV rfl ?_
                      refine gCons' ?_
                      refine gC ?_
                      refine gNil' ?_
                      refine q_isi (ty_P2 (R.up S80.ext h468)) (by decide +kernel : kitB "tuple" "tuple" = some true) ?_
                      refine ⟨true, rfl, ?_⟩
                      refine ite2 (fun c9 => ?_) (fun c9 => ?_)
                      · skip
                        have hm93 := (if_pos c9).symm.trans hq66
                        cases hm93
                        exact ⟨G60, (Ext.refl _), S80, rfl⟩
                      · skip
                        have hm94 := (if_neg c9).symm.trans hq66
                        refine gTest ?_
                        refine gOp ?_
                        refine gV rfl ?_
                        refine gTup' ?_
                        refine gCons' ?_
                        refine gOp ?_
                        refine gV rfl ?_
                        refine gM1 ?_
                        refine gC ?_
                        refine ⟨⟨_, rfl⟩, ?_⟩
                        refine gOp ?_
                        refine gV rfl ?_
                        refine gV rfl ?_
                        obtain ⟨t4, hq67, hm95⟩ := bindS hm94
                        refine q_ixTx hq67 ?_
                        obtain ⟨k18, hq68, hm96⟩ := bindS hm95
                        refine q_idxA hq68 ?_
                        obtain ⟨x24, hq69, hm97⟩ := bindS hm96
                        refine q_ixL S80 (rM_L (K := K) h462) hq69 (fun v26 h480 => ?_)
                        refine gCons' ?_
                        refine gOp ?_
                        refine gV rfl ?_
                        refine gV rfl ?_
                        obtain ⟨x25, hq70, hm98⟩ := bindS hm97
                        refine q_ixL S80 (rM_L (K := K) h464) hq70 (fun v27 h481 => ?_)
                        obtain rfl := (show v27 = (V.int x25) from h481)
                        refine gNil' ?_
                        refine q_tup2 (K := K) S80 (show R.rel (rT K (rEn e_Ink)) G60 v26 x24 from h480) (show R.rel rInt G60 (V.int x25) x25 from rfl) (fun v28 G62 H63 e66 S82 h482 => ?_)
                        have h483 := R.up e66 h461
                        have h484 := R.up e66 h462
                        have h485 := R.up e66 h463
                        have h486 := R.up e66 h464
                        have h487 := Al.up e66 h465
                        have h488 := R.up e66 h466
                        have h489 := R.up e66 h468
                        have h490 := R.up e66 h467
                        have E66 := E64.trans e66
                        refine q_neD (dP2 (dT (dEn (K := K) e_Ink e_Ink_inj e_Ink_ok)) (dInt (K := K))) (by show 4 ≤ 64; decide) (R.up S82.ext h489) (R.up S82.ext h482) ((okP2 (okT okEn) okI) _) ((okP2 (okT okEn) okI) _) ?_
                        refine ⟨(!decide (x20 = (x24, x25))), rfl, ?_⟩
                        cases hm98
                        exact ⟨G62, e66, S82, rfl⟩
                    · intro b5 H64 hJ
                      obtain ⟨G63, e67, S83, rfl⟩ := hJ
                      have h491 := R.up e67 h461
                      have h492 := R.up e67 h462
                      have h493 := R.up e67 h463
                      have h494 := R.up e67 h464
                      have h495 := Al.up e67 h465
                      have h496 := R.up e67 h466
                      have h497 := R.up e67 h468
                      have h498 := R.up e67 h467
                      have E67 := E64.trans e67
                      refine ite2 (fun c10 => ?_) (fun c10 => ?_)
                      · skip
                        have hm99 := (if_pos c10).symm.trans hm92
                        refine gRet ?_
                        refine gC ?_
                        have S84 := S83.tail
                        cases hm99
                        have hr10 := Option.some.inj (show some (Fl.rt _) = some res1 from hr9)
                        subst hr10
                        dsimp only at hm86
                        cases hm86
                        exact q G63 H64 E67 S84
                      · skip
                        have hm100 := (if_neg c10).symm.trans hm92
                        refine gNext ?_
                        cases hm100
                        exact ⟨_, ⟨G63, _, _, _, (e64.trans e67), S83, rfl⟩, hr9⟩
                  · intro s σ H h1 h2
                    obtain ⟨G, k13, k14, k15, ie, irest⟩ := h2
                    exact ⟨s, h1, G, k13, k14, k15, (ie), irest⟩
                · intro σ2 H65 hJ1
                  obtain ⟨s18, hres1, hJ2⟩ := hJ1
                  subst hres1
                  dsimp only at hm86
                  obtain ⟨G64, y7, y8, y9, e68, S85, rfl⟩ := hJ2
                  have h499 := R.up e68 h454
                  have h500 := R.up e68 h455
                  have h501 := R.up e68 h456
                  have h502 := R.up e68 h457
                  have h503 := Al.up e68 h458
                  have h504 := R.up e68 h459
                  have E68 := E63.trans e68
                  refine gS_Drop ?_
                  refine gBM ?_
                  refine gV rfl ?_
                  refine ⟨.inl ⟨rfl, _, .inl (.inl S85.head)⟩, ?_⟩
                  refine gCons' ?_
                  refine gC ?_
                  refine gNil' ?_
                  obtain ⟨told1, hq71, hm101⟩ := bindS hm86
                  refine q_app S85 h503 (show R.rel rInt G64 (V.int (0 : Int)) (0 : Int) from rfl) hq71 (fun H66 w34 S86 h505 => ?_)
                  refine gRet ?_
                  refine gOp ?_
                  refine gCall ?_
                  refine gCons' ?_
                  refine gV rfl ?_
                  refine gCons' ?_
                  refine gV rfl ?_
                  refine gNil' ?_
                  obtain ⟨r29, hq72, hm102⟩ := bindS hm101
                  refine ⟨G64, ((a1, HO.lst w34) :: O), v1, face1, word_here1, rfl, S86, h499, r29, hq72, fun a2 w35 G65 H67 e69 S87 h506 => ?_⟩
                  have h507 := R.up e69 h499
                  have h508 := R.up e69 h500
                  have h509 := R.up e69 h501
                  have h510 := R.up e69 h502
                  have h511 := Al.up e69 h505
                  have h512 := R.up e69 h504
                  have E69 := E68.trans e69
                  refine gV rfl ?_
                  have h513 := rM_own S87 h506
                  refine q_eqD (dM (dInt (K := K))) (by show 2 ≤ 64; decide) h513 (R.up S87.ext h510) ((okM okI) _) ((okM okI) _) ?_
                  have S88 := S87.tail
                  have S89 := S88.tail
                  cases hm102
                  exact q G65 H67 E69 S89
end
end Mr

set_option Elab.async false
set_option linter.all false
set_option maxRecDepth 100000
set_option maxHeartbeats 4000000
set_option synthInstance.maxSize 4000
set_option synthInstance.maxHeartbeats 400000
namespace Mr
open PySem PySem.Spec PyProof.Rows L2 GFr
section
variable {P : Program} {w : World} {K : PySem.W.Frag} {mg : Str → Option Value} {base : Heap}
theorem sc_law_cut_stands : FnScope ["_law_face", "_law_word_here", "_law_place", "_law_whole", "_law_part", "_law_each"] ["_law_face", "_law_word_here", "_law_place"] (defScope s_law_cut_stands) := ⟨rfl, rfl, rfl, by decide +kernel, rfl, by decide +kernel, by decide +kernel⟩
theorem ok_law_cut_stands (T : Tx K mg) : FnOk P w K mg base CX0 8 (He.fAd K ("_law_cut_stands", none)) T.fd_law_cut_stands ["_law_face", "_law_word_here", "_law_place"] (sp_law_cut_stands K) := by
  have G_columns := ok_columns (P := P) (w := w) (base := base) T
  refine T.F_law_cut_stands.ok sc_law_cut_stands (fun vs H Q E h => ?_) (fun cdv A outer s H0 vs Q E hr h => ?_)
  · obtain ⟨G, O, v1, face1, word_here1, place1, rfl, _⟩ := h
    rfl
  · obtain ⟨G0, O, v1, face1, word_here1, place1, rfl, S0, h1, res, hm, q⟩ := h
    refine ⟨_, PSs.nox (pss_cons (ps_set (i := 3) sc_law_cut_stands.nd rfl (.inr rfl) (pe_call G_columns (hr.mono (by decide)) (by rfl) T.g_columns T.F_columns.kp T.b_columns .nil pass0 (pa_cons (pv 0) (pa_cons (pv 1) pa_nil))))
      (pss_cons (ps_set (i := 4) sc_law_cut_stands.nd rfl (.inl rfl) (pe_call G_columns (hr.mono (by decide)) (by rfl) T.g_columns T.F_columns.kp T.b_columns .nil pass0 (pa_cons (pv 0) (pa_cons (pe_slice sl_str (pv 1) (po_some (pv 2)) po_none) pa_nil))))
      (pss_cons (ps_if (pt_cmpR (op_neD hr.units) (pe_call G_columns (hr.mono (by decide)) (by rfl) T.g_columns T.F_columns.kp T.b_columns .nil pass0 (pa_cons (pv 0) (pa_cons (pe_slice sl_str (pv 1) po_none (po_some (pe_op op_add (pv 2) pe_int))) pa_nil))) (pe_slice sl_list (pv 3) po_none (po_some (pe_op op_add (pv 2) pe_int))) (nomark _)) (pss_one (ps_ret pe_bl)) pss_nil)
      (pss_one (ps_ret (pe_cmpR (op_eqD hr.units) (pe_lc (own := [("_law_each", 5)]) (g := gName 5) (by rfl) sc_law_cut_stands.nd (pi_list (pv 4)) (blkOk_by (own := [("_law_each", 5)]) (N := ["_law_face", "_law_word_here", "_law_place", "_law_whole", "_law_part", "_law_each"]) (sc := defScope s_law_cut_stands) (by decide +kernel)) (fun _ _ _ _ _ => (pg_name (i := 5) sc_law_cut_stands.nd rfl (.inl rfl))) (fun _ _ _ _ _ => pts_nil) (fun _ _ _ _ _ => (pe_op op_add (pe_ix (ix_listK (K := K) rfl) (pv 3) (pv 2) (fun _ _ => rfl)) (pv 5)))) (pe_slice sl_list (pv 3) (po_some (pv 2)) po_none) (nomark _))))))), ?_⟩
    have E0 := Ext.refl G0
    have hm0 : (Option.bind (m_columns face1 word_here1) fun r1 =>
  Option.bind (cutT word_here1 (some place1) none) fun t2 =>
  Option.bind (m_columns face1 t2) fun r2 =>
  Option.bind (cutT word_here1 none (some (place1 + (1 : Int)))) fun t4 =>
  Option.bind (m_columns face1 t4) fun r3 =>
  if (!decide (r3 = (cutM r1 none (some (place1 + (1 : Int)))))) then (some false)
  else (Option.bind (folM (m_law_cut_stands_c1 place1 r1) r2 ([] : (List Int))) fun acc1 =>
  some (decide (acc1 = (cutM r1 (some place1) none))))) = some res := hm
    refine gS_AsgN ?_
    refine gCall ?_
    refine gCons' ?_
    refine gV rfl ?_
    refine gCons' ?_
    refine gV rfl ?_
    refine gNil' ?_
    obtain ⟨r1, hq1, hm1⟩ := bindS hm0
    refine ⟨G0, (O), v1, face1, word_here1, rfl, S0, h1, r1, hq1, fun a1 w1 G1 H1 e1 S1 h2 => ?_⟩
    have h3 := R.up e1 h1
    have E1 := E0.trans e1
    refine gS_AsgN ?_
    refine gCall ?_
    refine gCons' ?_
    refine gV rfl ?_
    refine gCons' ?_
    refine gSl ?_
    refine gV rfl ?_
    refine gPart ?_
    refine gV rfl ?_
    refine ⟨_, rfl, ?_⟩
    refine gNoPart ?_
    obtain ⟨t2, hq3, hm3⟩ := bindS hm1
    refine q_slT hq3 ?_
    refine gNil' ?_
    obtain ⟨r2, hq4, hm4⟩ := bindS hm3
    refine ⟨G1, ((a1, HO.lst w1) :: O), v1, face1, t2, rfl, S1, h3, r2, hq4, fun a2 w2 G2 H2 e2 S2 h4 => ?_⟩
    have h5 := R.up e2 h3
    have h6 := Al.up e2 h2
    have E2 := E1.trans e2
    refine gS_IfS ?_
    refine gTest ?_
    refine gOp ?_
    refine gCall ?_
    refine gCons' ?_
    refine gV rfl ?_
    refine gCons' ?_
    refine gSl ?_
    refine gV rfl ?_
    refine gNoPart ?_
    refine gPart ?_
    refine gOp ?_
    refine gV rfl ?_
    refine gC ?_
    refine ⟨_, _, rfl, rfl, ?_⟩
    refine ⟨_, rfl, ?_⟩
    obtain ⟨t4, hq6, hm6⟩ := bindS hm4
    refine q_slT hq6 ?_
    refine gNil' ?_
    obtain ⟨r3, hq7, hm7⟩ := bindS hm6
    refine ⟨G2, ((a2, HO.lst w2) :: (a1, HO.lst w1) :: O), v1, face1, t4, rfl, S2, h5, r3, hq7, fun a3 w3 G3 H3 e3 S3 h7 => ?_⟩
    have h8 := R.up e3 h5
    have h9 := Al.up e3 h6
    have h10 := Al.up e3 h4
    have E3 := E2.trans e3
    refine gSl ?_
    refine gV rfl ?_
    refine gNoPart ?_
    refine gPart ?_
    refine gOp ?_
    refine gV rfl ?_
    refine gC ?_
    refine ⟨_, _, rfl, rfl, ?_⟩
    refine ⟨_, rfl, ?_⟩
    have S4 : Sub G3 ((a1, HO.lst w1) :: (a3, HO.lst w3) :: (a2, HO.lst w2) :: O) H3 := S3.front 2 rfl rfl
    refine q_slO S4 h9 (fun v2 G4 H4 e4 S5 h11 => ?_)
    have h12 := R.up e4 h8
    have h13 := Al.up e4 h9
    have h14 := Al.up e4 h10
    have h15 := Al.up e4 h7
    have E4 := E3.trans e4
    have S6 : Sub G4 ((a3, HO.lst w3) :: (a1, HO.lst w1) :: (a2, HO.lst w2) :: O) H4 := S5.front 1 rfl rfl
    have h16 := rM_own S6 h15
    refine q_neD (dM (dInt (K := K))) (by show 2 ≤ 64; decide) h16 (R.up S6.ext h11) ((okM okI) _) ((okM okI) _) ?_
    refine ⟨(!decide (r3 = (cutM r1 none (some (place1 + (1 : Int)))))), rfl, ?_⟩
    refine ite2 (fun c1 => ?_) (fun c1 => ?_)
    · skip
      have hm8 := (if_pos c1).symm.trans hm7
      refine gRet ?_
      refine gC ?_
      have S7 := S6.tail
      have S8 := S7.tail
      have S9 := S8.tail
      cases hm8
      exact q G4 H4 E4 S9
    · skip
      have hm9 := (if_neg c1).symm.trans hm7
      refine gNext ?_
      refine gE ?_
      refine gRet ?_
      refine gOp ?_
      refine gLc ?_
      refine gIL ?_
      refine gV rfl ?_
      have S10 : Sub G4 ((a2, HO.lst w2) :: (a3, HO.lst w3) :: (a1, HO.lst w1) :: O) H4 := S6.front 2 rfl rfl
      obtain ⟨G5, e5, S11, h17⟩ := frz_M S10 h14
      have h18 := R.up e5 h12
      have h19 := Al.up e5 h13
      have E5 := E4.trans e5
      obtain ⟨acc1, hq9, hm11⟩ := bindS hm9
      refine lc_L (r := rInt) S11 (rM_L (K := K) h17) hq9 (fun (D : Addr) (s : (List Int)) (H : Hp) => ∃ (G : Hp) (w4 : List V), Ext G5 G ∧ Sub G ((D, HO.lst w4) :: (a3, HO.lst w3) :: (a1, HO.lst w1) :: O) H ∧ Al rInt G w4 s) ?_ ?_ ?_ ?_
      · intro D1 nD1
        exact ⟨G5, [], Ext.refl _, S11.newOwn nD1, True.intro⟩
      · intro D s H hI
        obtain ⟨G, k1, ie, iS, _⟩ := hI
        exact ie.trans iS.ext
      · intro D2 i1 x2 acc2 s2 hb1 hr1 v4 H5 hI1 h21
        obtain ⟨G6, w5, e6, S13, h22⟩ := hI1
        have h23 := R.up e6 h18
        have h24 := Al.up e6 h19
        have h25 := R.up e6 h17
        have h26 := R.up e6 (rM_L (K := K) h17)
        have E6 := E5.trans e6
        obtain rfl := (show v4 = (V.int x2) from h21)
        refine ⟨rfl, ?_⟩
        have hm12 : (Option.bind (getM r1 place1) fun x3 =>   Option.bind (appM acc2 (x3 + x2)) fun acc3 =>   some acc3) = some s2 := hb1
        refine gYes ?_
        refine iteT ?_
        refine gOp ?_
        refine gOp ?_
        refine gV rfl ?_
        refine gV rfl ?_
        obtain ⟨x3, hq10, hm13⟩ := bindS hm12
        have S14 : Sub G6 ((a1, HO.lst w1) :: (D2, HO.lst w5) :: (a3, HO.lst w3) :: O) H5 := S13.front 2 rfl rfl
        refine q_ixO S14 h24 hq10 (fun v5 h27 => ?_)
        obtain rfl := (show v5 = (V.int x3) from h27)
        refine gV rfl ?_
        refine ⟨_, _, rfl, rfl, ?_⟩
        obtain ⟨acc3, hq11, hm14⟩ := bindS hm13
        have S15 : Sub G6 ((D2, HO.lst w5) :: (a1, HO.lst w1) :: (a3, HO.lst w3) :: O) H5 := S14.front 1 rfl rfl
        refine q_lcEl S15 h22 (show R.rel rInt G6 (V.int (x3 + x2)) (x3 + x2) from rfl) hq11 (fun H6 w6 S16 h28 => ?_)
        have S17 : Sub G6 ((a1, HO.lst w1) :: (D2, HO.lst w6) :: (a3, HO.lst w3) :: O) H6 := S16.front 1 rfl rfl
        have S18 : Sub G6 ((a3, HO.lst w3) :: (a1, HO.lst w1) :: (D2, HO.lst w6) :: O) H6 := S17.front 2 rfl rfl
        have S19 : Sub G6 ((D2, HO.lst w6) :: (a3, HO.lst w3) :: (a1, HO.lst w1) :: O) H6 := S18.front 2 rfl rfl
        cases hm14
        exact ⟨_, ⟨G6, w6, e6, S19, h28⟩, hr1⟩
      · intro D3 H7 hI2
        obtain ⟨G7, w7, e7, S20, h29⟩ := hI2
        have h30 := R.up e7 h18
        have h31 := Al.up e7 h19
        have h32 := R.up e7 h17
        have E7 := E5.trans e7
        refine gSl ?_
        refine gV rfl ?_
        refine gPart ?_
        refine gV rfl ?_
        refine ⟨_, rfl, ?_⟩
        refine gNoPart ?_
        have S21 : Sub G7 ((a1, HO.lst w1) :: (D3, HO.lst w7) :: (a3, HO.lst w3) :: O) H7 := S20.front 2 rfl rfl
        refine q_slO S21 h31 (fun v6 G8 H8 e8 S22 h33 => ?_)
        have h34 := R.up e8 h30
        have h35 := Al.up e8 h31
        have h36 := R.up e8 h32
        have h37 := Al.up e8 h29
        have E8 := E7.trans e8
        have S23 : Sub G8 ((D3, HO.lst w7) :: (a1, HO.lst w1) :: (a3, HO.lst w3) :: O) H8 := S22.front 1 rfl rfl
        have h38 := rM_own S23 h37
        refine q_eqD (dM (dInt (K := K))) (by show 2 ≤ 64; decide) h38 (R.up S23.ext h33) ((okM okI) _) ((okM okI) _) ?_
        have S24 := S23.tail
        have S25 := S24.tail
        have S26 := S25.tail
        cases hm11
        exact q G8 H8 E8 S26
end
end Mr

set_option Elab.async false
set_option linter.all false
set_option maxRecDepth 100000
set_option maxHeartbeats 4000000
set_option synthInstance.maxSize 4000
set_option synthInstance.maxHeartbeats 400000
namespace Mr
open PySem PySem.Spec PyProof.Rows L2 GFr
section
variable {P : Program} {w : World} {K : PySem.W.Frag} {mg : Str → Option Value} {base : Heap}
theorem sc_law : FnScope ["_law_script", "_law_at", "_law_bag_here", "_law_made", "_law_turn", "_law_many", "_law_apart", "_law_outlines_here", "_law_inks", "_law_rings", "_law_face", "_law_table_here", "_law_word_here"] ["_law_script"] (defScope s_law) := ⟨rfl, rfl, rfl, by decide +kernel, rfl, by decide +kernel, by decide +kernel⟩
theorem ok_law (T : Tx K mg) (TB : Tbs K mg base) : FnOk P w K mg base CX0 12 (He.fAd K ("law", none)) T.fd_law ["_law_script"] (sp_law K) := by
  have G_Face___init__ := ok_Face___init__ (P := P) (w := w) (base := base) T
  have G_law_bag := ok_law_bag (P := P) (w := w) (base := base) T
  have G_law_cut_stands := ok_law_cut_stands (P := P) (w := w) (base := base) T
  have G_law_draw := ok_law_draw (P := P) (w := w) (base := base) T
  have G_law_ink := ok_law_ink (P := P) (w := w) (base := base) T
  have G_law_outlines := ok_law_outlines (P := P) (w := w) (base := base) T
  have G_law_refusals_stand := ok_law_refusals_stand (P := P) (w := w) (base := base) T TB
  have G_law_table := ok_law_table (P := P) (w := w) (base := base) T
  have G_law_word := ok_law_word (P := P) (w := w) (base := base) T
  have G_law_word_stands := ok_law_word_stands (P := P) (w := w) (base := base) T
  have G_law_wrong_word := ok_law_wrong_word (P := P) (w := w) (base := base) T
  obtain ⟨ds_Face___init___0, vd_Face___init___0, bd_Face___init___0⟩ := bdf_Face___init___0 T
  refine T.F_law.ok sc_law (fun vs H Q E h => ?_) (fun cdv A outer s H0 vs Q E hr h => ?_)
  · obtain ⟨G, O, v1, script1, B1, rfl, _⟩ := h
    rfl
  · obtain ⟨G0, O, v1, script1, B1, rfl, S0, h1, hT1, nc1, res, hm, q⟩ := h
    refine ⟨_, PSs.nox (pss_cons (ps_cut (ps_for PassesOwn.never rfl (pi_range1 (by rfl) T.z_range (pa_cons (pe_callB (call_max2 rfl) (by rfl) T.z_max boot_max (pa_cons pe_int (pa_cons (pe_callB (call_min2 rfl) (by rfl) T.z_min boot_min (pa_cons pe_int (pa_cons (pe_callB (r := rLenM K) call_lenM (by rfl) T.z_len boot_len (pa_cons (pv 0) pa_nil)) pa_nil))) pa_nil))) pa_nil)) (pg_name (i := 1) sc_law.nd rfl (.inl rfl))
      (pss_cons (ps_set (i := 2) sc_law.nd rfl (.inl rfl) (pe_call G_law_bag (hr.mono (by decide)) (by rfl) T.g_law_bag T.F_law_bag.kp T.b_law_bag .nil pass0 (pa_cons (pv 0) (pa_cons (pv 1) pa_nil))))
      (pss_cons (ps_set (i := 3) sc_law.nd rfl (.inl rfl) (pe_lst pa_nil))
      (pss_cons (ps_cut (ps_for PassesOwn.never rfl (pi_range1 (by rfl) T.z_range (pa_cons pe_int pa_nil)) (pg_name (i := 4) sc_law.nd rfl (.inl rfl))
      (pss_cons (ps_par (i := 5) (j := 6) (by rfl) sc_law.nd rfl rfl (by decide) rfl rfl (pa_cons (pe_op op_add pe_int (pe_call G_law_draw (hr.mono (by decide)) (by rfl) T.g_law_draw T.F_law_draw.kp T.b_law_draw .nil pass0 (pa_cons (pv 2) (pa_cons pe_int pa_nil)))) (pa_cons (pe_call G_law_draw (hr.mono (by decide)) (by rfl) T.g_law_draw T.F_law_draw.kp T.b_law_draw .nil pass0 (pa_cons (pv 2) (pa_cons pe_int pa_nil))) pa_nil)) (by rfl))
      (pss_cons (ps_set (i := 7) sc_law.nd rfl (.inl rfl) (pe_call G_law_outlines (hr.mono (by decide)) (by rfl) T.g_law_outlines T.F_law_outlines.kp T.b_law_outlines .nil pass0 (pa_cons (pv 2) (pa_cons (pv 5) (pa_cons pe_int pa_nil)))))
      (pss_cons (ps_setLc (i := 8) (own := [("_law_rings", 9)]) (g := gName 9) (by rfl) sc_law.nd rfl rfl (sw_true rfl rfl rfl (by decide +kernel)) (pi_list (pv 7)) (blkOk_by (own := [("_law_rings", 9)]) (N := ["_law_script", "_law_at", "_law_bag_here", "_law_made", "_law_turn", "_law_many", "_law_apart", "_law_outlines_here", "_law_inks", "_law_rings", "_law_face", "_law_table_here", "_law_word_here"]) (sc := defScope s_law) (by decide +kernel)) (fun _ _ _ _ _ => (pg_name (i := 9) sc_law.nd rfl (.inl rfl))) (fun _ _ _ _ _ => pts_nil) (fun _ _ _ _ _ => (pe_call G_law_ink (hr.mono (by decide)) (by rfl) T.g_law_ink T.F_law_ink.kp T.b_law_ink .nil pass0 (pa_cons (pv 9) pa_nil))))
      (pss_one (ps_expr (pe_bm PySem.F.plainAttrs_list PySem.F.slot_list_append PySem.F.type_list_append mt_append (pv 3) (pa_cons (pe_tup (pa_cons (pe_make T.mk_Face G_Face___init__ (hr.mono (by decide)) (by rfl) T.gc_Face bd_Face___init___0 vd_Face___init___0 pass0 (pa_cons (pv 7) (pa_cons (pv 6) pa_nil))) (pa_cons (pv 8) (pa_cons (pe_call G_law_table (hr.mono (by decide)) (by rfl) T.g_law_table T.F_law_table.kp T.b_law_table .nil pass0 (pa_cons (pv 8) (pa_cons (pv 6) pa_nil))) pa_nil)))) pa_nil)))))))))
      (pss_one (ps_cut (ps_for PassesOwn.never rfl (pi_range1 (by rfl) T.z_range (pa_cons pe_int pa_nil)) (pg_name (i := 4) sc_law.nd rfl (.inl rfl))
      (pss_one (ps_cut (ps_for PassesOwn.never rfl (pi_list (pv 3)) (pg_tup rfl (pgs_cons (pg_name (i := 10) sc_law.nd rfl (.inl rfl)) (pgs_cons (pg_name (i := 8) sc_law.nd rfl (.inl rfl)) (pgs_cons (pg_name (i := 11) sc_law.nd rfl (.inl rfl)) pgs_nil))))
      (pss_cons (ps_set (i := 12) sc_law.nd rfl (.inl rfl) (pe_call G_law_word (hr.mono (by decide)) (by rfl) T.g_law_word T.F_law_word.kp T.b_law_word .nil pass0 (pa_cons (pv 2) (pa_cons (pe_callB (r := rLenM K) call_lenM (by rfl) T.z_len boot_len (pa_cons (pv 8) pa_nil)) (pa_cons (pe_cut (pe_ifExp (pt_cmpR op_lt (pv 4) pe_int (nomark _)) pe_int pe_int)) pa_nil)))))
      (pss_cons (ps_if (pt_not (pt_val (pe_call G_law_word_stands (hr.mono (by decide)) (by rfl) T.g_law_word_stands T.F_law_word_stands.kp T.b_law_word_stands .nil pass0 (pa_cons (pv 10) (pa_cons (pv 8) (pa_cons (pv 11) (pa_cons (pv 12) pa_nil))))))) (pss_one (ps_ret pe_bl)) pss_nil)
      (pss_cons (ps_if (pt_not (pt_val (pe_call G_law_cut_stands (hr.mono (by decide)) (by rfl) T.g_law_cut_stands T.F_law_cut_stands.kp T.b_law_cut_stands .nil pass0 (pa_cons (pv 10) (pa_cons (pv 12) (pa_cons (pe_call G_law_draw (hr.mono (by decide)) (by rfl) T.g_law_draw T.F_law_draw.kp T.b_law_draw .nil pass0 (pa_cons (pv 2) (pa_cons (pe_callB (r := rLenS) call_lenS (by rfl) T.z_len boot_len (pa_cons (pv 12) pa_nil)) pa_nil))) pa_nil)))))) (pss_one (ps_ret pe_bl)) pss_nil)
      (pss_one (ps_if (pt_not (pt_val (pe_call G_law_refusals_stand (hr.mono (by decide)) (by rfl) T.g_law_refusals_stand T.F_law_refusals_stand.kp T.b_law_refusals_stand .nil pass0 (pa_cons (pv 10) (pa_cons (pe_call G_law_wrong_word (hr.mono (by decide)) (by rfl) T.g_law_wrong_word T.F_law_wrong_word.kp T.b_law_wrong_word .nil pass0 (pa_cons (pv 2) (pa_cons (pe_callB (r := rLenM K) call_lenM (by rfl) T.z_len boot_len (pa_cons (pv 8) pa_nil)) pa_nil))) pa_nil))))) (pss_one (ps_ret pe_bl)) pss_nil))))))))))))))))
      (pss_one (ps_ret pe_bl))), ?_⟩
    have E0 := Ext.refl G0
    have hm0 : (Option.bind (rngM (if (if (script1.length : Int) < (2 : Int) then (script1.length : Int) else (2 : Int)) > (1 : Int) then (if (script1.length : Int) < (2 : Int) then (script1.length : Int) else (2 : Int)) else (1 : Int))) fun xs1 =>
  Option.bind (forL (m_law_b1 script1) xs1 ()) fun res => match res with
  | Fl.rt r => some r
  | Fl.nx _ => some true) = some res := hm
    obtain ⟨xs1, hq1, hm1⟩ := bindS hm0
    obtain ⟨res1, hl1, hm2⟩ := bindS hm1
    refine gS_CS (fun (σ : L2.St) (H : Hp) => ∃ s : Unit, res1 = Fl.nx s ∧ ∃ (G : Hp) (y1 : Option V) (y2 : Option V) (y3 : Option V) (y4 : Option V) (y5 : Option V) (y6 : Option V) (y7 : Option V) (y8 : Option V) (y9 : Option V) (y10 : Option V) (y11 : Option V) (y12 : Option V) (B2 : Own), Ext G0 G ∧ Sub G ((B2 ++ O)) H ∧ σ = [some v1, y1, y2, y3, y4, y5, y6, y7, y8, y9, y10, y11, y12] ∧ TbR (tbs K) B2 G) ?_ ?_
    · skip
      refine gFor ?_
      refine gIR ?_
      refine gCons' ?_
      refine gCB ?_
      refine gCons' ?_
      refine gC ?_
      refine gCons' ?_
      refine gCB ?_
      refine gCons' ?_
      refine gC ?_
      refine gCons' ?_
      refine gCB ?_
      refine gCons' ?_
      refine gV rfl ?_
      refine gNil' ?_
      refine q_lenL (y := V.non) S0 h1 ?_
      refine gNil' ?_
      refine ⟨_, _, rfl, ?_⟩
      refine gNil' ?_
      refine ⟨_, _, rfl, ?_⟩
      refine gNil' ?_
      refine lp_R hq1 hl1 (fun (s : Unit) (σ : L2.St) (H : Hp) => ∃ (G : Hp) (y1 : Option V) (y2 : Option V) (y3 : Option V) (y4 : Option V) (y5 : Option V) (y6 : Option V) (y7 : Option V) (y8 : Option V) (y9 : Option V) (y10 : Option V) (y11 : Option V) (y12 : Option V) (B2 : Own), Ext G0 G ∧ Sub G ((B2 ++ O)) H ∧ σ = [some v1, y1, y2, y3, y4, y5, y6, y7, y8, y9, y10, y11, y12] ∧ TbR (tbs K) B2 G) ⟨G0, _, _, _, _, _, _, _, _, _, _, _, _, B1, (Ext.refl _), S0, rfl, (TbR.up hT1 (Ext.refl _))⟩ ?_ ?_
      · intro i1 x1 s1 b1 hb1 hr1 σ1 H1 hI1
        obtain ⟨G1, y13, y14, y15, y16, y17, y18, y19, y20, y21, y22, y23, y24, B3, e1, S1, rfl, h3⟩ := hI1
        have h4 := R.up e1 h1
        have E1 := E0.trans e1
        have hm3 : (Option.bind (m_law_bag script1 x1) fun r1 =>   Option.bind (rngM (2 : Int)) fun xs2 =>   Option.bind (folM (m_law_b2) xs2 (r1, ([] : List (Face × (List (List Ink)) × (List (List Int)))))) fun (bag_here1, made1) =>   Option.bind (rngM (4 : Int)) fun xs3 =>   Option.bind (forL (m_law_b4 made1) xs3 bag_here1) fun res => match res with   | Fl.rt r => some (Bf.rt r)   | Fl.nx bag_here6 => some (Bf.go ())) = some b1 := hb1
        refine gS_AsgN ?_
        refine gCall ?_
        refine gCons' ?_
        refine gV rfl ?_
        refine gCons' ?_
        refine gV rfl ?_
        refine gNil' ?_
        obtain ⟨r1, hq2, hm4⟩ := bindS hm3
        refine ⟨G1, ((B3 ++ O)), v1, script1, x1, rfl, S1, h4, r1, hq2, fun a1 w1 G2 H2 e2 S2 h5 => ?_⟩
        have h6 := R.up e2 h4
        have E2 := E1.trans e2
        refine gS_AsgN ?_
        refine gLst ?_
        refine gNil' ?_
        have h7 : Al (rP3 K (rI_Face K) (rM (rT K (rEn e_Ink))) (rM (rM rInt))) G2 [] [] := True.intro
        refine q_lst S2 h7 (by show 0 ≤ 100000; decide) (fun a2 H3 w2 S3 h8 => ?_)
        obtain ⟨xs2, hq3, hm5⟩ := bindS hm4
        obtain ⟨⟨bag_here1, made1⟩, hl2, hm6⟩ := bindS hm5
        dsimp only at hm6
        refine gS_CS (fun (σ : L2.St) (H : Hp) => ∃ (G : Hp) (w3 : List V) (w4 : List V) (y25 : Option V) (y26 : Option V) (y27 : Option V) (y28 : Option V) (y29 : Option V) (y30 : Option V) (y31 : Option V) (y32 : Option V) (y33 : Option V), Ext G2 G ∧ Sub G ((a1, HO.lst w3) :: (a2, HO.lst w4) :: (B3 ++ O)) H ∧ σ = [some v1, some (V.int x1), some (V.ref a1), some (V.ref a2), y25, y26, y27, y28, y29, y30, y31, y32, y33] ∧ Al rInt G w3 bag_here1 ∧ Al (rP3 K (rI_Face K) (rM (rT K (rEn e_Ink))) (rM (rM rInt))) G w4 made1) ?_ ?_
        · skip
          refine gFor ?_
          refine gIR ?_
          refine gCons' ?_
          refine gC ?_
          refine gNil' ?_
          have S4 : Sub G2 ((a1, HO.lst w1) :: (a2, HO.lst w2) :: (B3 ++ O)) H3 := S3.front 1 rfl rfl
          refine lp_R hq3 (fol_for Empty hl2) (fun (s : (List Int) × (List (Face × (List (List Ink)) × (List (List Int))))) (σ : L2.St) (H : Hp) => ∃ (G : Hp) (w3 : List V) (w4 : List V) (y25 : Option V) (y26 : Option V) (y27 : Option V) (y28 : Option V) (y29 : Option V) (y30 : Option V) (y31 : Option V) (y32 : Option V) (y33 : Option V), Ext G2 G ∧ Sub G ((a1, HO.lst w3) :: (a2, HO.lst w4) :: (B3 ++ O)) H ∧ σ = [some v1, some (V.int x1), some (V.ref a1), some (V.ref a2), y25, y26, y27, y28, y29, y30, y31, y32, y33] ∧ Al rInt G w3 s.1 ∧ Al (rP3 K (rI_Face K) (rM (rT K (rEn e_Ink))) (rM (rM rInt))) G w4 s.2) ⟨G2, w1, w2, _, _, _, _, _, _, _, _, _, (Ext.refl _), S4, rfl, h5, h8⟩ ?_ ?_
          · intro i2 x2 s2 b2 hb2 hr2 σ2 H4 hI2
            obtain ⟨s3, hb3, hb4⟩ := goF_some hb2
            subst hb4
            obtain ⟨bag_here2, made2⟩ := s2
            obtain ⟨G3, w5, w6, y34, y35, y36, y37, y38, y39, y40, y41, y42, e3, S5, rfl, h10, h11⟩ := hI2
            have h12 := R.up e3 h6
            have E3 := E2.trans e3
            have hm7 : (Option.bind (m_law_draw bag_here2 (4 : Int)) fun (r2, bag_here3) =>   Option.bind (m_law_draw bag_here3 (3 : Int)) fun (r3, bag_here4) =>   Option.bind (m_law_outlines bag_here4 ((1 : Int) + r2) (4 : Int)) fun (r4, bag_here5) =>   Option.bind (folM (m_law_c3) r4 ([] : (List (List Ink)))) fun acc1 =>   Option.bind (m_Face___init__ r4 r3) fun r7 =>   Option.bind (m_law_table acc1 r3) fun r8 =>   Option.bind (appM made2 (r7, acc1, r8)) fun made3 =>   some (bag_here5, made3)) = some s3 := hb3
            refine gS_Par ?_
            refine gCons' ?_
            refine gOp ?_
            refine gC ?_
            refine gCall ?_
            refine gCons' ?_
            refine gV rfl ?_
            refine gCons' ?_
            refine gC ?_
            refine gNil' ?_
            obtain ⟨⟨r2, bag_here3⟩, hq4, hm8⟩ := bindS hm7
            dsimp only at hm8
            refine ⟨G3, ((a2, HO.lst w6) :: (B3 ++ O)), a1, w5, bag_here2, (4 : Int), rfl, S5, h10, (r2, bag_here3), hq4, fun G4 H5 w7 e4 S6 h13 => ?_⟩
            have h14 := R.up e4 h12
            have h15 := Al.up e4 h11
            have E4 := E3.trans e4
            refine ⟨_, _, rfl, rfl, ?_⟩
            refine gCons' ?_
            refine gCall ?_
            refine gCons' ?_
            refine gV rfl ?_
            refine gCons' ?_
            refine gC ?_
            refine gNil' ?_
            obtain ⟨⟨r3, bag_here4⟩, hq5, hm9⟩ := bindS hm8
            dsimp only at hm9
            refine ⟨G4, ((a2, HO.lst w6) :: (B3 ++ O)), a1, w7, bag_here3, (3 : Int), rfl, S6, h13, (r3, bag_here4), hq5, fun G5 H6 w8 e5 S7 h16 => ?_⟩
            have h17 := R.up e5 h14
            have h18 := Al.up e5 h15
            have E5 := E4.trans e5
            refine gNil' ?_
            refine ⟨_, _, rfl, ?_⟩
            refine gS_AsgN ?_
            refine gCall ?_
            refine gCons' ?_
            refine gV rfl ?_
            refine gCons' ?_
            refine gV rfl ?_
            refine gCons' ?_
            refine gC ?_
            refine gNil' ?_
            obtain ⟨⟨r4, bag_here5⟩, hq6, hm10⟩ := bindS hm9
            dsimp only at hm10
            refine ⟨G5, ((a2, HO.lst w6) :: (B3 ++ O)), a1, w8, bag_here4, ((1 : Int) + r2), (4 : Int), rfl, S7, h16, (r4, bag_here5), hq6, fun v4 G6 H7 w9 e6 S8 h19 h20 => ?_⟩
            have h21 := R.up e6 h17
            have h22 := Al.up e6 h18
            have E6 := E5.trans e6
            refine gS_AsgN ?_
            refine gLc ?_
            refine gIL ?_
            refine gV rfl ?_
            obtain ⟨acc1, hq8, hm12⟩ := bindS hm10
            refine lc_L (r := (rM (rM (rP2 K rInt rInt)))) S8 (rM_L (K := K) h19) hq8 (fun (D : Addr) (s : (List (List Ink))) (H : Hp) => ∃ (G : Hp) (w10 : List V), Ext G6 G ∧ Sub G ((D, HO.lst w10) :: (a1, HO.lst w9) :: (a2, HO.lst w6) :: (B3 ++ O)) H ∧ Al (rT K (rEn e_Ink)) G w10 s) ?_ ?_ ?_ ?_
            · intro D1 nD1
              exact ⟨G6, [], Ext.refl _, S8.newOwn nD1, True.intro⟩
            · intro D s H hI
              obtain ⟨G, k25, ie, iS, _⟩ := hI
              exact ie.trans iS.ext
            · intro D2 i3 x3 acc2 s5 hb5 hr3 v6 H9 hI3 h30
              obtain ⟨G8, w11, e8, S10, h31⟩ := hI3
              have h32 := R.up e8 h21
              have h33 := Al.up e8 h20
              have h34 := Al.up e8 h22
              have h35 := R.up e8 h19
              have h36 := R.up e8 (rM_L (K := K) h19)
              have E8 := E6.trans e8
              have h37 := R.up e8 h30
              refine ⟨rfl, ?_⟩
              have hm13 : (Option.bind (m_law_ink x3) fun r6 =>   Option.bind (appM acc2 r6) fun acc3 =>   some acc3) = some s5 := hb5
              refine gYes ?_
              refine iteT ?_
              refine gCall ?_
              refine gCons' ?_
              refine gV rfl ?_
              refine gNil' ?_
              obtain ⟨r6, hq9, hm14⟩ := bindS hm13
              refine ⟨G8, ((D2, HO.lst w11) :: (a1, HO.lst w9) :: (a2, HO.lst w6) :: (B3 ++ O)), v6, x3, rfl, S10, h37, r6, hq9, fun v7 G9 H10 e9 S11 h38 => ?_⟩
              have h39 := R.up e9 h32
              have h40 := Al.up e9 h33
              have h41 := Al.up e9 h34
              have h42 := R.up e9 h35
              have h43 := R.up e9 h37
              have h44 := R.up e9 h36
              have h45 := Al.up e9 h31
              have E9 := E8.trans e9
              obtain ⟨acc3, hq10, hm15⟩ := bindS hm14
              refine q_lcEl S11 h45 (show R.rel (rT K (rEn e_Ink)) G9 v7 r6 from h38) hq10 (fun H11 w12 S12 h46 => ?_)
              cases hm15
              exact ⟨_, ⟨G9, w12, (e8.trans e9), S12, h46⟩, hr3⟩
            · intro D3 H12 hI4
              obtain ⟨G10, w13, e10, S13, h47⟩ := hI4
              have h48 := R.up e10 h21
              have h49 := Al.up e10 h20
              have h50 := Al.up e10 h22
              have h51 := R.up e10 h19
              have E10 := E6.trans e10
              obtain ⟨G11, e11, S14, h52⟩ := frz_M S13 h47
              have h53 := R.up e11 h48
              have h54 := Al.up e11 h49
              have h55 := Al.up e11 h50
              have h56 := R.up e11 h51
              have E11 := E10.trans e11
              refine gDrop ?_
              refine gBM ?_
              refine gV rfl ?_
              have S15 : Sub G11 ((a2, HO.lst w6) :: (a1, HO.lst w9) :: (B3 ++ O)) H12 := S14.front 1 rfl rfl
              refine ⟨.inl ⟨rfl, _, .inl (.inl S15.head)⟩, ?_⟩
              refine gCons' ?_
              refine gTup' ?_
              refine gCons' ?_
              refine gMake ?_
              refine gCons' ?_
              refine gV rfl ?_
              refine gCons' ?_
              refine gV rfl ?_
              refine gNil' ?_
              refine mk_step S15 (fun p1 d1 H13 S16 => ?_)
              obtain ⟨r7, hq11, hm16⟩ := bindS hm12
              refine ⟨G11, ((a2, HO.lst w6) :: (a1, HO.lst w9) :: (B3 ++ O)), p1, d1, v4, r4, r3, rfl, S16, h56, r7, hq11, fun G12 H14 e12 S17 h57 => ⟨rfl, ?_⟩⟩
              have h58 := R.up e12 h53
              have h59 := Al.up e12 h54
              have h60 := Al.up e12 h55
              have h61 := R.up e12 h56
              have h62 := R.up e12 h52
              have E12 := E11.trans e12
              refine gCons' ?_
              refine gV rfl ?_
              refine gCons' ?_
              refine gCall ?_
              refine gCons' ?_
              refine gV rfl ?_
              refine gCons' ?_
              refine gV rfl ?_
              refine gNil' ?_
              obtain ⟨r8, hq12, hm17⟩ := bindS hm16
              refine ⟨G12, ((a2, HO.lst w6) :: (a1, HO.lst w9) :: (B3 ++ O)), (V.ref D3), acc1, r3, rfl, S17, h62, r8, hq12, fun v8 G13 H15 e13 S18 h63 => ?_⟩
              have h64 := R.up e13 h58
              have h65 := Al.up e13 h59
              have h66 := Al.up e13 h60
              have h67 := R.up e13 h61
              have h68 := R.up e13 h62
              have h69 := R.up e13 h57
              have E13 := E12.trans e13
              refine gNil' ?_
              refine q_tup3 (K := K) S18 (show R.rel (rI_Face K) G13 (V.ref p1) r7 from h69) (show R.rel (rM (rT K (rEn e_Ink))) G13 (V.ref D3) acc1 from h68) (show R.rel (rM (rM rInt)) G13 v8 r8 from h63) (fun v9 G14 H16 e14 S19 h70 => ?_)
              have h71 := R.up e14 h64
              have h72 := Al.up e14 h65
              have h73 := Al.up e14 h66
              have h74 := R.up e14 h67
              have h75 := R.up e14 h68
              have E14 := E13.trans e14
              refine gNil' ?_
              obtain ⟨made3, hq13, hm18⟩ := bindS hm17
              refine q_app S19 h73 (show R.rel (rP3 K (rI_Face K) (rM (rT K (rEn e_Ink))) (rM (rM rInt))) G14 v9 (r7, acc1, r8) from h70) hq13 (fun H17 w14 S20 h76 => ?_)
              have S21 : Sub G14 ((a1, HO.lst w9) :: (a2, HO.lst w14) :: (B3 ++ O)) H17 := S20.front 1 rfl rfl
              cases hm18
              exact ⟨(bag_here5, made3), ⟨G14, w9, w14, _, _, _, _, _, _, _, _, _, ((((((((e3.trans e4).trans e5).trans e6).trans e10).trans e11).trans e12).trans e13).trans e14), S21, rfl, h72, h76⟩, hr2⟩
          · intro s σ H h1 h2
            cases h1
            obtain ⟨G, k14, k15, k16, k17, k18, k19, k20, k21, k22, k23, k24, ie, irest⟩ := h2
            exact ⟨G, k14, k15, k16, k17, k18, k19, k20, k21, k22, k23, k24, (ie), irest⟩
        · intro σ3 H18 hJ1
          obtain ⟨G15, w15, w16, y43, y44, y45, y46, y47, y48, y49, y50, y51, e15, S22, rfl, h77, h78⟩ := hJ1
          have h79 := R.up e15 h6
          have E15 := E2.trans e15
          have S23 : Sub G15 ((a2, HO.lst w16) :: (a1, HO.lst w15) :: (B3 ++ O)) H18 := S22.front 1 rfl rfl
          obtain ⟨G16, e16, S24, h80⟩ := frz_M S23 h78
          have h81 := R.up e16 h79
          have h82 := Al.up e16 h77
          have E16 := E15.trans e16
          obtain ⟨xs3, hq14, hm19⟩ := bindS hm6
          obtain ⟨res3, hl3, hm20⟩ := bindS hm19
          refine gCS (fun (σ : L2.St) (H : Hp) => ∃ s : (List Int), res3 = Fl.nx s ∧ ∃ (G : Hp) (w17 : List V) (y52 : Option V) (y53 : Option V) (y54 : Option V) (y55 : Option V) (y56 : Option V) (y57 : Option V) (y58 : Option V) (y59 : Option V) (y60 : Option V) (B4 : Own), Ext G16 G ∧ Sub G ((a1, HO.lst w17) :: (B4 ++ O)) H ∧ σ = [some v1, some (V.int x1), some (V.ref a1), some (V.ref a2), y52, y53, y54, y55, y56, y57, y58, y59, y60] ∧ Al rInt G w17 s ∧ TbR (tbs K) B4 G) ?_ ?_
          · skip
            refine gFor ?_
            refine gIR ?_
            refine gCons' ?_
            refine gC ?_
            refine gNil' ?_
            refine lp_R hq14 hl3 (fun (s : (List Int)) (σ : L2.St) (H : Hp) => ∃ (G : Hp) (w17 : List V) (y52 : Option V) (y53 : Option V) (y54 : Option V) (y55 : Option V) (y56 : Option V) (y57 : Option V) (y58 : Option V) (y59 : Option V) (y60 : Option V) (B4 : Own), Ext G16 G ∧ Sub G ((a1, HO.lst w17) :: (B4 ++ O)) H ∧ σ = [some v1, some (V.int x1), some (V.ref a1), some (V.ref a2), y52, y53, y54, y55, y56, y57, y58, y59, y60] ∧ Al rInt G w17 s ∧ TbR (tbs K) B4 G) ⟨G16, w15, _, _, _, _, _, _, _, _, _, B3, (Ext.refl _), S24, rfl, h82, (TbR.up h3 ((e2.trans e15).trans e16))⟩ ?_ ?_
            · intro i4 x4 bag_here7 b3 hb6 hr4 σ4 H19 hI5
              obtain ⟨G17, w18, y61, y62, y63, y64, y65, y66, y67, y68, y69, B5, e17, S25, rfl, h84, h85⟩ := hI5
              have h86 := R.up e17 h81
              have h87 := R.up e17 h80
              have E17 := E16.trans e17
              have hm21 : (Option.bind (forL (m_law_b5 x4) made1 bag_here7) fun res => match res with   | Fl.rt r => some (Bf.rt r)   | Fl.nx bag_here8 => some (Bf.go bag_here8)) = some b3 := hb6
              obtain ⟨res4, hl4, hm22⟩ := bindS hm21
              refine gCS (fun (σ : L2.St) (H : Hp) => ∃ s : (List Int), res4 = Fl.nx s ∧ ∃ (G : Hp) (w19 : List V) (y70 : Option V) (y71 : Option V) (y72 : Option V) (y73 : Option V) (y74 : Option V) (y75 : Option V) (y76 : Option V) (y77 : Option V) (B6 : Own), Ext G17 G ∧ Sub G ((a1, HO.lst w19) :: (B6 ++ O)) H ∧ σ = [some v1, some (V.int x1), some (V.ref a1), some (V.ref a2), some (V.int x4), y70, y71, y72, y73, y74, y75, y76, y77] ∧ Al rInt G w19 s ∧ TbR (tbs K) B6 G) ?_ ?_
              · skip
                refine gFor ?_
                refine gIL ?_
                refine gV rfl ?_
                refine lp_L (r := (rP3 K (rI_Face K) (rM (rT K (rEn e_Ink))) (rM (rM rInt)))) S25 (rM_L (K := K) h87) hl4 (fun (s : (List Int)) (σ : L2.St) (H : Hp) => ∃ (G : Hp) (w19 : List V) (y70 : Option V) (y71 : Option V) (y72 : Option V) (y73 : Option V) (y74 : Option V) (y75 : Option V) (y76 : Option V) (y77 : Option V) (B6 : Own), Ext G17 G ∧ Sub G ((a1, HO.lst w19) :: (B6 ++ O)) H ∧ σ = [some v1, some (V.int x1), some (V.ref a1), some (V.ref a2), some (V.int x4), y70, y71, y72, y73, y74, y75, y76, y77] ∧ Al rInt G w19 s ∧ TbR (tbs K) B6 G) ⟨G17, w18, _, _, _, _, _, _, _, _, B5, (Ext.refl _), S25, rfl, h84, (TbR.up h85 (Ext.refl _))⟩ ?_ ?_ ?_
                · intro s σ H hI
                  obtain ⟨G, k37, k38, k39, k40, k41, k42, k43, k44, k45, k46, ie, iS, _⟩ := hI
                  exact ie.trans iS.ext
                · intro i5 x5 bag_here9 b4 hb7 hr5 v11 σ5 H20 hI6 h88
                  obtain ⟨G18, w20, y78, y79, y80, y81, y82, y83, y84, y85, B7, e18, S26, rfl, h89, h90⟩ := hI6
                  have h91 := R.up e18 h86
                  have h92 := R.up e18 h87
                  have h93 := R.up e18 (rM_L (K := K) h87)
                  have E18 := E17.trans e18
                  have h94 := R.up e18 h88
                  refine q_gt3 S26 h94 (fun v12 v13 v14 h95 h96 h97 => ?_)
                  have hm23 : (Option.bind (m_law_word bag_here9 (x5.2.1.length : Int) (if (decide (x4 < (2 : Int))) then (6 : Int) else (40 : Int))) fun (r9, bag_here10) =>   Option.bind (m_law_word_stands x5.1 x5.2.1 x5.2.2 r9) fun r11 =>   if (!r11) then (some (Bf.rt false))   else (Option.bind (lenT r9) fun k48 =>   Option.bind (m_law_draw bag_here10 k48) fun (r14, bag_here12) =>   Option.bind (m_law_cut_stands x5.1 r9 r14) fun r15 =>   if (!r15) then (some (Bf.rt false))   else (Option.bind (m_law_wrong_word bag_here12 (x5.2.1.length : Int)) fun (r18, bag_here14) =>   Option.bind (m_law_refusals_stand x5.1 r18) fun r19 =>   if (!r19) then (some (Bf.rt false))   else (some (Bf.go bag_here14))))) = some b4 := hb7
                  refine gS_AsgN ?_
                  refine gCall ?_
                  refine gCons' ?_
                  refine gV rfl ?_
                  refine gCons' ?_
                  refine gCB ?_
                  refine gCons' ?_
                  refine gV rfl ?_
                  refine gNil' ?_
                  refine q_lenL (y := V.non) S26 (rM_L (K := K) h96) ?_
                  refine gCons' ?_
                  refine gCE (fun (v : V) (H : Hp) => ∃ (G : Hp), Ext G18 G ∧ Sub G ((a1, HO.lst w20) :: (B7 ++ O)) H ∧ v = (V.int (if (decide (x4 < (2 : Int))) then (6 : Int) else (40 : Int)))) ?_ ?_
                  · skip
                    refine gIf ?_
                    refine gTest ?_
                    refine gOp ?_
                    refine gV rfl ?_
                    refine gC ?_
                    refine ⟨_, _, rfl, rfl, ?_⟩
                    refine ⟨(decide (x4 < (2 : Int))), rfl, ?_⟩
                    refine ite2 (fun c1 => ?_) (fun c1 => ?_)
                    · skip
                      refine gC ?_
                      exact ⟨G18, (Ext.refl _), S26, congrArg V.int (if_pos c1).symm⟩
                    · skip
                      refine gC ?_
                      exact ⟨G18, (Ext.refl _), S26, congrArg V.int (if_neg c1).symm⟩
                  · intro v15 H21 hJ
                    obtain ⟨G19, e19, S27, rfl⟩ := hJ
                    have h99 := R.up e19 h91
                    have h100 := Al.up e19 h89
                    have h101 := R.up e19 h92
                    have h102 := R.up e19 h96
                    have h103 := R.up e19 h95
                    have h104 := R.up e19 h97
                    have h105 := R.up e19 h93
                    have E19 := E18.trans e19
                    refine gNil' ?_
                    obtain ⟨⟨r9, bag_here10⟩, hq15, hm24⟩ := bindS hm23
                    dsimp only at hm24
                    refine ⟨G19, ((B7 ++ O)), a1, w20, bag_here9, (x5.2.1.length : Int), (if (decide (x4 < (2 : Int))) then (6 : Int) else (40 : Int)), rfl, S27, h100, (r9, bag_here10), hq15, fun G20 H22 w21 e20 S28 h106 => ?_⟩
                    have h107 := R.up e20 h99
                    have h108 := R.up e20 h101
                    have h109 := R.up e20 h102
                    have h110 := R.up e20 h103
                    have h111 := R.up e20 h104
                    have h112 := R.up e20 h105
                    have E20 := E19.trans e20
                    refine gS_IfS ?_
                    refine gNot ?_
                    refine gB ?_
                    refine gCall ?_
                    refine gCons' ?_
                    refine gV rfl ?_
                    refine gCons' ?_
                    refine gV rfl ?_
                    refine gCons' ?_
                    refine gV rfl ?_
                    refine gCons' ?_
                    refine gV rfl ?_
                    refine gNil' ?_
                    obtain ⟨r11, hq17, hm26⟩ := bindS hm24
                    refine ⟨G20, ((a1, HO.lst w21) :: (B7 ++ O)), v12, x5.1, v13, x5.2.1, v14, x5.2.2, r9, rfl, S28, h110, h109, h111, r11, hq17, fun G22 H24 e22 S30 => ?_⟩
                    have h120 := R.up e22 h107
                    have h121 := Al.up e22 h106
                    have h122 := R.up e22 h108
                    have h123 := R.up e22 h109
                    have h124 := R.up e22 h110
                    have h125 := R.up e22 h111
                    have h126 := R.up e22 h112
                    have E22 := E20.trans e22
                    refine ⟨r11, rfl, ?_⟩
                    refine ite2 (fun c2 => ?_) (fun c2 => ?_)
                    · skip
                      have hm27 := (if_pos c2).symm.trans hm26
                      refine gRet ?_
                      refine gC ?_
                      have S31 := S30.tail
                      cases hm27
                      have hr6 := Option.some.inj (show some (Fl.rt _) = some res4 from hr5)
                      subst hr6
                      dsimp only at hm22
                      cases hm22
                      have hr7 := Option.some.inj (show some (Fl.rt _) = some res3 from hr4)
                      subst hr7
                      dsimp only at hm20
                      cases hm20
                      have hr8 := Option.some.inj (show some (Fl.rt _) = some res1 from hr1)
                      subst hr8
                      dsimp only at hm2
                      cases hm2
                      exact q G22 H24 B7 E22 S31 (TbR.up h90 ((e19.trans e20).trans e22))
                    · skip
                      have hm28 := (if_neg c2).symm.trans hm26
                      refine gNext ?_
                      refine gE ?_
                      refine gS_IfS ?_
                      refine gNot ?_
                      refine gB ?_
                      refine gCall ?_
                      refine gCons' ?_
                      refine gV rfl ?_
                      refine gCons' ?_
                      refine gV rfl ?_
                      refine gCons' ?_
                      refine gCall ?_
                      refine gCons' ?_
                      refine gV rfl ?_
                      refine gCons' ?_
                      refine gCB ?_
                      refine gCons' ?_
                      refine gV rfl ?_
                      refine gNil' ?_
                      obtain ⟨k48, hq21, hm32⟩ := bindS hm28
                      refine q_lenT' hq21 ?_
                      refine gNil' ?_
                      obtain ⟨⟨r14, bag_here12⟩, hq22, hm33⟩ := bindS hm32
                      dsimp only at hm33
                      refine ⟨G22, ((B7 ++ O)), a1, w21, bag_here10, k48, rfl, S30, h121, (r14, bag_here12), hq22, fun G25 H27 w23 e25 S34 h141 => ?_⟩
                      have h142 := R.up e25 h120
                      have h143 := R.up e25 h122
                      have h144 := R.up e25 h123
                      have h145 := R.up e25 h124
                      have h146 := R.up e25 h125
                      have h147 := R.up e25 h126
                      have E25 := E22.trans e25
                      refine gNil' ?_
                      obtain ⟨r15, hq23, hm34⟩ := bindS hm33
                      refine ⟨G25, ((a1, HO.lst w23) :: (B7 ++ O)), v12, x5.1, r9, r14, rfl, S34, h145, r15, hq23, fun G26 H28 e26 S35 => ?_⟩
                      have h148 := R.up e26 h142
                      have h149 := Al.up e26 h141
                      have h150 := R.up e26 h143
                      have h151 := R.up e26 h144
                      have h152 := R.up e26 h145
                      have h153 := R.up e26 h146
                      have h154 := R.up e26 h147
                      have E26 := E25.trans e26
                      refine ⟨r15, rfl, ?_⟩
                      refine ite2 (fun c3 => ?_) (fun c3 => ?_)
                      · skip
                        have hm35 := (if_pos c3).symm.trans hm34
                        refine gRet ?_
                        refine gC ?_
                        have S36 := S35.tail
                        cases hm35
                        have hr9 := Option.some.inj (show some (Fl.rt _) = some res4 from hr5)
                        subst hr9
                        dsimp only at hm22
                        cases hm22
                        have hr10 := Option.some.inj (show some (Fl.rt _) = some res3 from hr4)
                        subst hr10
                        dsimp only at hm20
                        cases hm20
                        have hr11 := Option.some.inj (show some (Fl.rt _) = some res1 from hr1)
                        subst hr11
                        dsimp only at hm2
                        cases hm2
                        exact q G26 H28 B7 E26 S36 (TbR.up h90 ((((e19.trans e20).trans e22).trans e25).trans e26))
                      · skip
                        have hm36 := (if_neg c3).symm.trans hm34
                        refine gNext ?_
                        refine gE ?_
                        refine gIfS ?_
                        refine gNot ?_
                        refine gB ?_
                        refine gCall ?_
                        refine gCons' ?_
                        refine gV rfl ?_
                        refine gCons' ?_
                        refine gCall ?_
                        refine gCons' ?_
                        refine gV rfl ?_
                        refine gCons' ?_
                        refine gCB ?_
                        refine gCons' ?_
                        refine gV rfl ?_
                        refine gNil' ?_
                        refine q_lenL (y := V.non) S35 (rM_L (K := K) h151) ?_
                        refine gNil' ?_
                        obtain ⟨⟨r18, bag_here14⟩, hq26, hm39⟩ := bindS hm36
                        dsimp only at hm39
                        refine ⟨G26, ((B7 ++ O)), a1, w23, bag_here12, (x5.2.1.length : Int), rfl, S35, h149, (r18, bag_here14), hq26, fun v17 G29 H31 w25 e29 S41 h170 h171 => ?_⟩
                        have h172 := R.up e29 h148
                        have h173 := R.up e29 h150
                        have h174 := R.up e29 h151
                        have h175 := R.up e29 h152
                        have h176 := R.up e29 h153
                        have h177 := R.up e29 h154
                        have E29 := E26.trans e29
                        refine gNil' ?_
                        obtain ⟨r19, hq27, hm40⟩ := bindS hm39
                        have S42 := Sub.bFr0 (E := ((a1, HO.lst w25) :: [] : Own)) (B := B7) (O := O) S41
                        refine ⟨G29, ((a1, HO.lst w25) :: [] : Own) ++ O, v12, x5.1, v17, r18, B7, rfl, S42, h175, h170, (TbR.up h90 (((((e19.trans e20).trans e22).trans e25).trans e26).trans e29)), (NoC.lst nc1), r19, hq27, fun G30 H32 B9 e30 S43 hT3 => ?_⟩
                        have h178 := R.up e30 h172
                        have h179 := Al.up e30 h171
                        have h180 := R.up e30 h173
                        have h181 := R.up e30 h174
                        have h182 := R.up e30 h175
                        have h183 := R.up e30 h176
                        have h184 := R.up e30 h177
                        have E30 := E29.trans e30
                        have S44 : Sub G30 ((a1, HO.lst w25) :: (B9 ++ O)) H32 := Sub.bBk0 (E := ((a1, HO.lst w25) :: [] : Own)) (B := B9) (O := O) S43
                        refine ⟨r19, rfl, ?_⟩
                        refine ite2 (fun c4 => ?_) (fun c4 => ?_)
                        · skip
                          have hm41 := (if_pos c4).symm.trans hm40
                          refine gRet ?_
                          refine gC ?_
                          have S45 := S44.tail
                          cases hm41
                          have hr12 := Option.some.inj (show some (Fl.rt _) = some res4 from hr5)
                          subst hr12
                          dsimp only at hm22
                          cases hm22
                          have hr13 := Option.some.inj (show some (Fl.rt _) = some res3 from hr4)
                          subst hr13
                          dsimp only at hm20
                          cases hm20
                          have hr14 := Option.some.inj (show some (Fl.rt _) = some res1 from hr1)
                          subst hr14
                          dsimp only at hm2
                          cases hm2
                          exact q G30 H32 B9 E30 S45 (TbR.up hT3 (Ext.refl _))
                        · skip
                          have hm42 := (if_neg c4).symm.trans hm40
                          refine gNext ?_
                          cases hm42
                          exact ⟨_, ⟨G30, w25, _, _, _, _, _, _, _, _, B9, (((((((e18.trans e19).trans e20).trans e22).trans e25).trans e26).trans e29).trans e30), S44, rfl, h179, (TbR.up hT3 (Ext.refl _))⟩, hr5⟩
                · intro s σ H h1 h2
                  obtain ⟨G, k37, k38, k39, k40, k41, k42, k43, k44, k45, k46, ie, irest⟩ := h2
                  exact ⟨s, h1, G, k37, k38, k39, k40, k41, k42, k43, k44, k45, k46, (ie), irest⟩
              · intro σ6 H33 hJ2
                obtain ⟨bag_here8, hres1, hJ3⟩ := hJ2
                subst hres1
                dsimp only at hm22
                obtain ⟨G31, w26, y86, y87, y88, y89, y90, y91, y92, y93, B10, e31, S46, rfl, h185, h186⟩ := hJ3
                have h187 := R.up e31 h86
                have h188 := R.up e31 h87
                have E31 := E17.trans e31
                cases hm22
                exact ⟨_, ⟨G31, w26, _, _, _, _, _, _, _, _, _, B10, (e17.trans e31), S46, rfl, h185, (TbR.up h186 (Ext.refl _))⟩, hr4⟩
            · intro s σ H h1 h2
              obtain ⟨G, k26, k27, k28, k29, k30, k31, k32, k33, k34, k35, k36, ie, irest⟩ := h2
              exact ⟨s, h1, G, k26, k27, k28, k29, k30, k31, k32, k33, k34, k35, k36, (ie), irest⟩
          · intro σ7 H34 hJ4
            obtain ⟨bag_here6, hres2, hJ5⟩ := hJ4
            subst hres2
            dsimp only at hm20
            obtain ⟨G32, w27, y94, y95, y96, y97, y98, y99, y100, y101, y102, B11, e32, S47, rfl, h189, h190⟩ := hJ5
            have h191 := R.up e32 h81
            have h192 := R.up e32 h80
            have E32 := E16.trans e32
            have S48 := S47.tail
            cases hm20
            exact ⟨_, ⟨G32, _, _, _, _, _, _, _, _, _, _, _, _, B11, ((((e1.trans e2).trans e15).trans e16).trans e32), S48, rfl, (TbR.up h190 (Ext.refl _))⟩, hr1⟩
      · intro s σ H h1 h2
        obtain ⟨G, k1, k2, k3, k4, k5, k6, k7, k8, k9, k10, k11, k12, k13, ie, irest⟩ := h2
        exact ⟨s, h1, G, k1, k2, k3, k4, k5, k6, k7, k8, k9, k10, k11, k12, k13, (ie), irest⟩
    · intro σ8 H35 hJ6
      obtain ⟨s8, hres3, hJ7⟩ := hJ6
      subst hres3
      dsimp only at hm2
      obtain ⟨G33, y103, y104, y105, y106, y107, y108, y109, y110, y111, y112, y113, y114, B12, e33, S49, rfl, h193⟩ := hJ7
      have h194 := R.up e33 h1
      have E33 := E0.trans e33
      refine gRet ?_
      refine gC ?_
      cases hm2
      exact q G33 H35 B12 E33 S49 (TbR.up h193 (Ext.refl _))
end
end Mr

set_option linter.all false
set_option maxRecDepth 100000
set_option maxHeartbeats 1000000
/-! DrawP: the law's source of draws. -/
namespace Mr
theorem bindOk {α β : Type} {o : Option α} {f : α → Option β} {a : α} {r : Option β} (h : o = some a) (h2 : f a = r) : o.bind f = r := by
  subst h; exact h2
theorem modM_pos {a b : Int} (h : 0 < b) : modM a b = some (a % b) := if_pos h
theorem fdivM_ok {a b : Int} (h : 0 < b) (h2 : b.natAbs.log2 < 9000) : fdivM a b = some (a / b) := if_pos ⟨h, h2⟩
theorem appM_ok {α : Type} {xs : List α} {x : α} (h : xs.length < 100000) : appM xs x = some (xs ++ [x]) := if_pos h
theorem getM_nat {α : Type} {xs : List α} {j : Nat} {x : α} (h : xs[j]? = some x) : getM xs (j : Int) = some x := by
  have hj : j < xs.length := (List.getElem?_eq_some_iff.mp h).1
  unfold getM ixM
  rw [if_pos (by omega), if_pos (by omega)]
  simpa using h
theorem rngM_ok {n : Int} (h : 0 ≤ n) (h2 : n < 2 ^ 62) : rngM n = some ((List.range n.toNat).map fun (i : Nat) => (i : Int)) := if_pos ⟨by omega, h2⟩
theorem folM_inv {α σ : Type} {f : σ → α → Option σ} (P : σ → Prop) : ∀ (xs : List α) (s : σ), P s → (∀ x ∈ xs, ∀ s, P s → ∃ s', f s x = some s' ∧ P s') → ∃ s', folM f xs s = some s' ∧ P s'
  | [], s, h, _ => ⟨s, rfl, h⟩
  | x :: xs, s, h, hs => by
    obtain ⟨s1, h1, p1⟩ := hs x (List.mem_cons_self ..) s h
    obtain ⟨s2, h2, p2⟩ := folM_inv P xs s1 p1 fun y hy => hs y (List.mem_cons_of_mem _ hy)
    exact ⟨s2, bindOk h1 h2, p2⟩
theorem forL_inv {α σ ρ : Type} {f : σ → α → Option (Bf σ ρ)} (P : σ → Prop) : ∀ (xs : List α) (s : σ), P s → (∀ x ∈ xs, ∀ s, P s → ∃ s', f s x = some (.go s') ∧ P s') → ∃ s', forL f xs s = some (.nx s') ∧ P s'
  | [], s, h, _ => ⟨s, rfl, h⟩
  | x :: xs, s, h, hs => by
    obtain ⟨s1, h1, p1⟩ := hs x (List.mem_cons_self ..) s h
    obtain ⟨s2, h2, p2⟩ := forL_inv P xs s1 p1 fun y hy => hs y (List.mem_cons_of_mem _ hy)
    exact ⟨s2, bindOk h1 h2, p2⟩
/-- all turns go on -/
def goL {α σ ρ : Type} (f : σ → α → Option (Bf σ ρ)) : List α → σ → Option σ
  | [], s => some s
  | x :: xs, s => match f s x with
    | some (.go s') => goL f xs s'
    | _ => none
theorem goL_cons {α σ ρ : Type} {f : σ → α → Option (Bf σ ρ)} {x : α} {xs : List α} {s s' : σ} (h : f s x = some (.go s')) : goL f (x :: xs) s = goL f xs s' := by
  show (match f s x with
    | some (.go s') => goL f xs s'
    | _ => none) = _
  rw [h]
theorem goL_for {α σ ρ : Type} {f : σ → α → Option (Bf σ ρ)} : ∀ {xs : List α} {s r : σ}, goL f xs s = some r → forL f xs s = some (.nx r)
  | [], s, r, h => by cases h; rfl
  | x :: xs, s, r, h => by
    have h' : (match f s x with
      | some (.go s') => goL f xs s'
      | _ => none) = some r := h
    split at h'
    · rename_i s' e
      exact bindOk e (goL_for h')
    · cases h'
theorem goL_app {α σ ρ : Type} {f : σ → α → Option (Bf σ ρ)} : ∀ {xs ys : List α} {s s1 : σ}, goL f xs s = some s1 → goL f (xs ++ ys) s = goL f ys s1
  | [], ys, s, s1, h => by cases h; rfl
  | x :: xs, ys, s, s1, h => by
    have h' : (match f s x with
      | some (.go s') => goL f xs s'
      | _ => none) = some s1 := h
    split at h'
    · rename_i s' e
      rw [List.cons_append, goL_cons e]
      exact goL_app h'
    · cases h'
theorem enumF_app {α : Type} : ∀ (xs ys : List α) (k : Nat), enumF k (xs ++ ys) = enumF k xs ++ enumF (k + xs.length) ys
  | [], ys, k => rfl
  | x :: xs, ys, k => by
    show ((k : Int), x) :: enumF (k + 1) (xs ++ ys) = ((k : Int), x) :: (enumF (k + 1) xs ++ enumF (k + (xs.length + 1)) ys)
    rw [enumF_app xs ys (k + 1)]
    have e : k + 1 + xs.length = k + (xs.length + 1) := by omega
    rw [e]
theorem log2_lt {n m : Nat} (h : n < 2 ^ m) (hm : 0 < m) : n.log2 < m := by
  by_cases h0 : n = 0
  · subst h0; simpa using hm
  · exact (Nat.log2_lt h0).mpr h

/-! ### bags -/
def BagOk (b : List Int) : Prop := ∃ g m c : Int, b = [g, m, c]
theorem draw_ok {b : List Int} {n : Int} (hb : BagOk b) (h0 : 0 < n) (h1 : n < 2 ^ 60) : ∃ x b', m_law_draw b n = some (x, b') ∧ 0 ≤ x ∧ x < n ∧ BagOk b' := by
  obtain ⟨g, m, c, rfl⟩ := hb
  have hl : n.natAbs.log2 < 9000 := Nat.lt_of_lt_of_le (log2_lt (m := 60) (by omega) (by decide)) (by decide)
  unfold m_law_draw
  by_cases hg : decide (g > 0) = true
  · exact ⟨g % n, [g / n, m, c], bindOk (a := g) rfl ((if_pos hg).trans (bindOk (a := g) rfl (bindOk (modM_pos h0) (bindOk (a := g) rfl (bindOk (fdivM_ok h0 hl) (bindOk (a := [g / n, m, c]) rfl rfl)))))),
      Int.emod_nonneg _ (by omega), Int.emod_lt_of_pos _ h0, _, _, _, rfl⟩
  · refine ⟨_, [g, (m * 48271 + 11 * (c + 1) + 7) % 2147483647, c + 1], bindOk (a := g) rfl ((if_neg hg).trans (bindOk (a := c) rfl (bindOk (a := [g, m, c + 1]) rfl (bindOk (a := m) rfl (bindOk (a := c + 1) rfl (bindOk (a := [g, (m * 48271 + 11 * (c + 1) + 7) % 2147483647, c + 1]) rfl
      (bindOk (a := (m * 48271 + 11 * (c + 1) + 7) % 2147483647) rfl (bindOk (a := c + 1) rfl (bindOk (modM_pos h0) rfl))))))))), ?_, ?_, _, _, _, rfl⟩
    · exact Int.emod_nonneg _ (by omega)
    · exact Int.emod_lt_of_pos _ h0
theorem bag_ok {ns : List Int} {j : Nat} : ∃ b, m_law_bag ns (j : Int) = some b ∧ BagOk b := by
  unfold m_law_bag
  obtain ⟨m, hm, _⟩ := folM_inv (f := m_law_bag_b1) (fun _ => True) (enumM (cutM ns none (some (63 : Int)))) ((1009 : Int) + ((77 : Int) * (j : Int))) True.intro (fun x _ s _ => ⟨_, rfl, True.intro⟩)
  by_cases h : decide ((j : Int) < (ns.length : Int)) = true
  · have hj : j < ns.length := by have := of_decide_eq_true h; omega
    exact ⟨_, bindOk ((if_pos h).trans (bindOk (getM_nat (List.getElem?_eq_getElem hj)) rfl)) (bindOk hm rfl), _, _, _, rfl⟩
  · exact ⟨_, bindOk (if_neg h) (bindOk hm rfl), _, _, _, rfl⟩
end Mr

set_option linter.all false
set_option maxRecDepth 100000
set_option maxHeartbeats 1000000
/-! FcA: boxes, their inks, steps. -/
namespace Mr
abbrev Pt := Int × Int
abbrev Bx := Int × Int × Int × Int
def ringB (b : Bx) : List Pt := [(b.1, b.2.1), (b.2.2.1, b.2.1), (b.2.2.1, b.2.2.2), (b.1, b.2.2.2)]
def BxOk (b : Bx) : Prop := 0 ≤ b.1 ∧ b.1 < b.2.2.1 ∧ b.2.2.1 ≤ 4 ∧ 0 ≤ b.2.1 ∧ b.2.1 < b.2.2.2 ∧ b.2.2.2 ≤ 4
def five : List Int := [0, 1, 2, 3, 4]
def four : List Int := [0, 1, 2, 3]
theorem mem_five {z : Int} (h : 0 ≤ z ∧ z ≤ 4) : z ∈ five := by
  have : z = 0 ∨ z = 1 ∨ z = 2 ∨ z = 3 ∨ z = 4 := by omega
  rcases this with e | e | e | e | e <;> rw [e] <;> decide
theorem mem_four {z : Int} (h : 0 ≤ z ∧ z ≤ 3) : z ∈ four := by
  have : z = 0 ∨ z = 1 ∨ z = 2 ∨ z = 3 := by omega
  rcases this with e | e | e | e <;> rw [e] <;> decide
theorem of_four {z : Int} (h : z ∈ four) : 0 ≤ z ∧ z ≤ 3 := by
  simp only [four, List.mem_cons, List.not_mem_nil, or_false] at h
  omega
theorem rng4 : rngM (4 : Int) = some four := rfl
def boxes : List Bx := (five.flatMap fun a => five.flatMap fun b => five.flatMap fun c => five.map fun d => (a, b, c, d)).filter fun b => decide (b.1 < b.2.2.1) && decide (b.2.1 < b.2.2.2)
theorem mem_boxes {b : Bx} (h : BxOk b) : b ∈ boxes := by
  obtain ⟨a, c, d, e⟩ := b
  obtain ⟨h1, h2, h3, h4, h5, h6⟩ := h
  dsimp only at h1 h2 h3 h4 h5 h6
  refine List.mem_filter.mpr ⟨List.mem_flatMap.mpr ⟨a, mem_five ⟨h1, by omega⟩, List.mem_flatMap.mpr ⟨c, mem_five ⟨h4, by omega⟩, List.mem_flatMap.mpr ⟨d, mem_five ⟨by omega, h3⟩, List.mem_map.mpr ⟨e, mem_five ⟨by omega, h6⟩, rfl⟩⟩⟩⟩, ?_⟩
  simp [h2, h5]
def insB (b : Bx) (x y : Int) : Bool := (decide (b.1 ≤ x) && decide (x < b.2.2.1)) && (decide (b.2.1 ≤ y) && decide (y < b.2.2.2))
theorem win_box : ∀ b ∈ boxes, ∀ x ∈ four, ∀ y ∈ four, folM (m_winding_b2 x y) (sidesM (ringB b)) 0 = some (if insB b x y = true then 1 else 0) := by decide +kernel
theorem ring_ok : ∀ b ∈ boxes, m_is_ring (ringB b) = some true := by decide +kernel
theorem wb2_add (x y : Int) : ∀ (ss : List (Pt × Pt)) (t u : Int), folM (m_winding_b2 x y) ss u = (some t) → ∀ v, folM (m_winding_b2 x y) ss (u + v) = some (t + v)
  | [], t, u, h, v => by cases h; rfl
  | (p, q) :: ss, t, u, h, v => by
    obtain ⟨z, h1, h2⟩ := bindS h
    obtain ⟨c, h3, h4⟩ := bindS h1
    cases h4
    refine bindOk (a := u + v + c) (bindOk h3 rfl) ?_
    rw [show u + v + c = (u + c) + v by omega]
    exact wb2_add x y ss t (u + c) h2 v
def hits (bs : List Bx) (x y : Int) : Int := ((bs.filter fun b => insB b x y).length : Int)
theorem wind_fol {x y : Int} (hx : x ∈ four) (hy : y ∈ four) : ∀ (bs : List Bx) (t : Int), (∀ b ∈ bs, BxOk b) → folM (m_winding_b1 x y) (bs.map ringB) t = some (t + hits bs x y)
  | [], t, _ => by simp [folM, hits]
  | b :: bs, t, h => by
    have hw := win_box b (mem_boxes (h b (List.mem_cons_self ..))) x hx y hy
    have h2 := wb2_add x y _ _ _ hw t
    refine bindOk (bindOk (by rw [show (0 : Int) + t = t by omega] at h2; exact h2) rfl) ?_
    refine (wind_fol hx hy bs _ (fun c hc => h c (List.mem_cons_of_mem _ hc))).trans ?_
    unfold hits
    congr 1
    cases e : insB b x y
    · rw [List.filter_cons_of_neg (p := fun b => insB b x y) (by simp [e])]; simp
    · rw [List.filter_cons_of_pos (p := fun b => insB b x y) e]; simp; omega
theorem wind_ok {bs : List Bx} {x y : Int} (hx : x ∈ four) (hy : y ∈ four) (h : ∀ b ∈ bs, BxOk b) : m_winding (bs.map ringB) x y = some (hits bs x y) := by
  unfold m_winding
  refine bindOk (wind_fol hx hy bs 0 h) ?_
  simp
/-! ### the ink -/
def cellB (bs : List Bx) (x y : Int) : Bool := bs.any fun b => insB b x y
def rowB (bs : List Bx) (y : Int) : Ink := four.map fun x => cellB bs x y
def inkB (bs : List Bx) : List Ink := four.map fun y => rowB bs y
def InkOk (i : List Ink) : Prop := i.length = 4 ∧ ∀ r ∈ i, r.length = 4
theorem inkB_ok (bs : List Bx) : InkOk (inkB bs) := by
  refine ⟨by simp [inkB, four], fun r hr => ?_⟩
  obtain ⟨y, _, rfl⟩ := List.mem_map.mp hr
  simp [rowB, four]
theorem cell_hits (bs : List Bx) (x y : Int) : (!decide (hits bs x y = 0)) = cellB bs x y := by
  unfold hits cellB
  rw [Bool.eq_iff_iff]
  simp only [Bool.not_eq_true', decide_eq_false_iff_not, List.any_eq_true]
  constructor
  · intro h
    have h2 : (bs.filter fun b => insB b x y) ≠ [] := fun e => h (by rw [e]; rfl)
    obtain ⟨b, hb⟩ := List.exists_mem_of_ne_nil _ h2
    exact ⟨b, (List.mem_filter.mp hb).1, (List.mem_filter.mp hb).2⟩
  · rintro ⟨b, h1, h2⟩ e
    have h3 : (bs.filter fun b => insB b x y) = [] := List.length_eq_zero_iff.mp (by omega)
    have h4 : b ∈ bs.filter fun b => insB b x y := List.mem_filter.mpr ⟨h1, h2⟩
    rw [h3] at h4
    cases h4
theorem ink_of_ok {bs : List Bx} (h : ∀ b ∈ bs, BxOk b) : m_ink_of (bs.map ringB) = some (inkB bs) := by
  have c2 : ∀ y ∈ four, ∀ (xs : List Int) (acc : List Ink), (∀ x ∈ xs, x ∈ four) → acc.length + xs.length ≤ 100 → folM (m_ink_of_c2 (bs.map ringB) y) xs acc = some (acc ++ xs.map fun x => [cellB bs x y]) := by
    intro y hy xs
    induction xs with
    | nil => intro acc _ _; simp [folM]
    | cons x xs ih =>
      intro acc hx hz
      have hz' : acc.length + (xs.length + 1) ≤ 100 := hz
      refine bindOk (a := acc ++ [[cellB bs x y]]) ?_ ?_
      · unfold m_ink_of_c2
        refine bindOk (a := [cellB bs x y]) (bindOk (wind_ok (hx x (List.mem_cons_self ..)) hy h) ?_) (bindOk (appM_ok (by omega)) rfl)
        rw [← cell_hits]
        cases decide (hits bs x y = 0) <;> rfl
      · refine (ih _ (fun z hz => hx z (List.mem_cons_of_mem _ hz)) (by simp; omega)).trans ?_
        simp
  have b1 : ∀ (ys : List Int) (acc : List Ink), (∀ y ∈ ys, y ∈ four) → acc.length + ys.length ≤ 100 → folM (m_ink_of_b1 (bs.map ringB)) ys acc = some (acc ++ ys.map fun y => rowB bs y) := by
    intro ys
    induction ys with
    | nil => intro acc _ _; simp [folM]
    | cons y ys ih =>
      intro acc hy hz
      have hz' : acc.length + (ys.length + 1) ≤ 100 := hz
      refine bindOk (a := acc ++ [rowB bs y]) ?_ ?_
      · unfold m_ink_of_b1
        refine bindOk rng4 (bindOk (c2 y (hy y (List.mem_cons_self ..)) four [] (fun _ z => z) (by simp [four])) (bindOk (a := rowB bs y) ?_ (bindOk (appM_ok (by omega)) rfl)))
        unfold rowB four
        rfl
      · refine (ih _ (fun z hz => hy z (List.mem_cons_of_mem _ hz)) (by simp; omega)).trans ?_
        simp
  unfold m_ink_of
  exact bindOk rng4 (bindOk (b1 four [] (fun _ z => z) (by simp [four])) (by simp [inkB]))
theorem law_c3 (bs : List Bx) (x y : Int) : ∀ (acc : List Bx), acc.length + bs.length ≤ 100 → folM (m_law_ink_c3 y x) (bs.map ringB) (acc.map ringB) = some ((acc ++ bs.filter fun b => insB b x y).map ringB) := by
  induction bs with
  | nil => intro acc _; simp [folM]
  | cons b bs ih =>
    intro acc hz
    have hz' : acc.length + (bs.length + 1) ≤ 100 := hz
    have hb : m_law_ink_c3 y x (acc.map ringB) (ringB b) = if insB b x y = true then some ((acc ++ [b]).map ringB) else some (acc.map ringB) := by
      unfold m_law_ink_c3
      have g0 : getM (ringB b) (0 : Int) = some (b.1, b.2.1) := rfl
      have g2 : getM (ringB b) (2 : Int) = some (b.2.2.1, b.2.2.2) := rfl
      rw [g0, g2]
      have ap : appM (acc.map ringB) (ringB b) = some ((acc ++ [b]).map ringB) := by
        rw [appM_ok (by rw [List.length_map]; omega)]; simp
      rw [ap]
      unfold insB
      by_cases c1 : b.1 ≤ x <;> by_cases c2 : x < b.2.2.1 <;> by_cases c3 : b.2.1 ≤ y <;> by_cases c4 : y < b.2.2.2 <;> simp [c1, c2, c3, c4]
    cases e : insB b x y
    · refine bindOk (hb.trans (if_neg (by simp [e]))) ?_
      rw [List.filter_cons_of_neg (p := fun b => insB b x y) (by simp [e])]
      exact ih acc (by omega)
    · refine bindOk (hb.trans (if_pos e)) ?_
      rw [List.filter_cons_of_pos (p := fun b => insB b x y) e]
      refine (ih (acc ++ [b]) (by simp; omega)).trans ?_
      simp
theorem law_ink_ok {bs : List Bx} (hl : bs.length ≤ 50) : m_law_ink (bs.map ringB) = some (inkB bs) := by
  have b2 : ∀ (y : Int) (xs : List Int) (acc : Ink), acc.length + xs.length ≤ 100 → folM (m_law_ink_b2 (bs.map ringB) y) xs acc = some (acc ++ xs.map fun x => cellB bs x y) := by
    intro y xs
    induction xs with
    | nil => intro acc _; simp [folM]
    | cons x xs ih =>
      intro acc hz
      have hz' : acc.length + (xs.length + 1) ≤ 100 := hz
      refine bindOk (a := acc ++ [cellB bs x y]) ?_ ?_
      · unfold m_law_ink_b2
        refine bindOk (law_c3 bs x y [] (by simp; omega)) ?_
        have e : (if (!decide ((([] ++ bs.filter fun b => insB b x y).map ringB) = ([] : List (List (Int × Int))))) = true then ([true] : Ink) else [false]) = [cellB bs x y] := by
          rw [← cell_hits]
          unfold hits
          rw [List.nil_append]
          cases hh : bs.filter fun b => insB b x y with
          | nil => simp
          | cons c cs =>
            rw [if_pos (by simp)]
            simp
            omega
        rw [e]
        exact bindOk (show catI acc [cellB bs x y] = some (acc ++ [cellB bs x y]) from if_pos (by simp; omega)) rfl
      · refine (ih _ (by simp; omega)).trans ?_
        simp
  have b1 : ∀ (ys : List Int) (acc : List Ink), acc.length + ys.length ≤ 100 → folM (m_law_ink_b1 (bs.map ringB)) ys acc = some (acc ++ ys.map fun y => rowB bs y) := by
    intro ys
    induction ys with
    | nil => intro acc _; simp [folM]
    | cons y ys ih =>
      intro acc hz
      have hz' : acc.length + (ys.length + 1) ≤ 100 := hz
      refine bindOk (a := acc ++ [rowB bs y]) ?_ ?_
      · unfold m_law_ink_b1
        exact bindOk rng4 (bindOk (b2 y four [] (by simp [four])) (bindOk (appM_ok (by omega)) (by simp [rowB])))
      · refine (ih _ (by simp; omega)).trans ?_
        simp
  unfold m_law_ink
  exact bindOk rng4 (bindOk (b1 four [] (by simp [four])) (by simp [inkB]))
end Mr

set_option linter.all false
set_option maxRecDepth 100000
set_option maxHeartbeats 1000000
/-! FcB: steps and gaps. -/
namespace Mr
theorem rows4 (r : Ink) (h : r.length = 4) : r ∈ allI 4 := by
  match r, h with
  | [a, b, c, d], _ => cases a <;> cases b <;> cases c <;> cases d <;> decide +kernel
theorem rw1 : ∀ r ∈ allI 4, -1 ≤ rfnI r ∧ rfnI r ≤ 3 ∧ -1 ≤ fndI r ∧ fndI r ≤ 3 ∧ (true ∈ r → 0 ≤ rfnI r) := by decide +kernel
theorem rw2 : ∀ r ∈ allI 4, ∀ s ∈ ([0, 1, 2, 3, 4] : List Nat), rfnI r + 1 ≤ (s : Int) → (decide (true ∈ r.take s) = decide (0 ≤ rfnI r) ∧ ((r.take s).length : Int) = s ∧ (0 ≤ rfnI r → ((rstI (r.take s)).length : Int) = rfnI r + 1)) := by decide +kernel
theorem rw3 : ∀ r ∈ allI 4, decide (true ∈ r) = decide (0 ≤ fndI r) ∧ (0 ≤ fndI r → ((lstI r).length : Int) = 4 - fndI r) ∧ (lstI r).length ≤ 4 := by decide +kernel
theorem fndM_ok {r : Ink} (h : r.length = 4) : fndM r = some (fndI r) := if_pos (by omega)
theorem rfnM_ok {r : Ink} (h : r.length = 4) : rfnM r = some (rfnI r) := if_pos (by omega)
theorem step_fol : ∀ (xs : List Ink) (acc : List Int), (∀ r ∈ xs, r.length = 4) → acc.length + xs.length ≤ 100 → folM m_step_of_c1 xs acc = some (acc ++ xs.map rfnI)
  | [], acc, _, _ => by simp [folM]
  | x :: xs, acc, h, hz => by
    have hz' : acc.length + (xs.length + 1) ≤ 100 := hz
    refine bindOk (a := acc ++ [rfnI x]) (bindOk (rfnM_ok (h x (List.mem_cons_self ..))) (bindOk (appM_ok (by omega)) rfl)) ?_
    refine (step_fol xs _ (fun z hz => h z (List.mem_cons_of_mem _ hz)) (by simp; omega)).trans ?_
    simp
theorem max_ok {xs : List Int} (h : xs ≠ []) : ∃ m, maxM xs = some m ∧ (∀ y ∈ xs, y ≤ m) ∧ m ∈ xs := by
  cases xs with
  | nil => exact (h rfl).elim
  | cons x xs =>
    obtain ⟨h1, h2, h3⟩ := maxF_ge xs x
    refine ⟨_, rfl, fun y hy => ?_, ?_⟩
    · rcases List.mem_cons.mp hy with e | e
      · rw [e]; exact h1
      · exact h2 y e
    · rcases h3 with e | e
      · rw [e]; exact List.mem_cons_self ..
      · exact List.mem_cons_of_mem _ e
def stepV (i : List Ink) : Int := (maxM (i.map rfnI)).getD 0 + 1
theorem step_facts {i : List Ink} (h : InkOk i) : m_step_of i = some (stepV i) ∧ (∀ r ∈ i, rfnI r + 1 ≤ stepV i) ∧ 0 ≤ stepV i ∧ stepV i ≤ 4 := by
  obtain ⟨m, h1, h2, h3⟩ := max_ok (xs := i.map rfnI) (fun e => by
    have := congrArg List.length e
    rw [List.length_map, h.1] at this
    cases this)
  obtain ⟨r, hr, e⟩ := List.mem_map.mp h3
  have hv : stepV i = m + 1 := by unfold stepV; rw [h1]; rfl
  have f := rw1 r (rows4 r (h.2 r hr))
  refine ⟨?_, fun r hr => ?_, by omega, by omega⟩
  · unfold m_step_of
    refine bindOk (step_fol i [] h.2 (by rw [h.1]; decide)) ?_
    rw [List.nil_append]
    refine bindOk h1 ?_
    rw [hv]
  · have := h2 _ (List.mem_map.mpr ⟨r, hr, rfl⟩)
    omega
theorem lstep_eq : m_law_step = m_step_of := rfl
theorem get4 {i : List Ink} (h : InkOk i) {k : Int} (hk : k ∈ four) : ∃ r, getM i k = some r ∧ r ∈ i := by
  have hl := h.1
  have h4 := of_four hk
  have hlt : k.toNat < i.length := by omega
  refine ⟨i[k.toNat], ?_, List.getElem_mem _⟩
  have := getM_nat (List.getElem?_eq_getElem hlt)
  rw [Int.toNat_of_nonneg h4.1] at this
  exact this
theorem left_ok {i : List Ink} {k : Int} {r : Ink} (hk : getM i k = some r) (hr : r.length = 4) : m_leftmost i k = some (if fndI r < 0 then none else some (fndI r)) := by
  unfold m_leftmost
  refine bindOk hk (bindOk (fndM_ok hr) ?_)
  by_cases h : fndI r < 0
  · rw [if_pos (by simpa using h), if_pos h]; rfl
  · rw [if_neg (by simpa using h), if_neg h]; rfl
theorem right_ok {i : List Ink} {k : Int} {r : Ink} (hk : getM i k = some r) (hr : r.length = 4) : m_rightmost i k = some (if rfnI r < 0 then none else some (rfnI r)) := by
  unfold m_rightmost
  refine bindOk hk (bindOk (rfnM_ok hr) ?_)
  by_cases h : rfnI r < 0
  · rw [if_pos (by simpa using h), if_pos h]; rfl
  · rw [if_neg (by simpa using h), if_neg h]; rfl
/-- the free cells of a row between two inks that touch; none where one has no ink there -/
def fr (a b : List Ink) (k : Int) : Option Int := (getM a k).bind fun r => (getM b k).bind fun t => if rfnI r < 0 ∨ fndI t < 0 then none else some (stepV a - 1 - rfnI r + fndI t)
theorem blanks_ok {a b : List Ink} (ha : InkOk a) (hb : InkOk b) {k g : Int} (hk : k ∈ four) : m_blanks a b k g = some ((fr a b k).map fun f => f + g) := by
  obtain ⟨hs, s2, s3, s4⟩ := step_facts ha
  obtain ⟨r, gr, mr⟩ := get4 ha hk
  obtain ⟨t, gt, mt⟩ := get4 hb hk
  have lr := ha.2 r mr
  have lt := hb.2 t mt
  unfold m_blanks fr
  rw [gr, gt]
  refine bindOk (right_ok gr lr) (bindOk (left_ok gt lt) ?_)
  by_cases h1 : rfnI r < 0
  · simp [h1]
  · by_cases h2 : fndI t < 0
    · simp [h1, h2]
    · have h3 : ¬ (rfnI r < 0 ∨ fndI t < 0) := by omega
      simp only [Option.bind_some, if_neg h3, if_neg h1, if_neg h2]
      rw [if_neg (by simp)]
      refine bindOk hs ?_
      show some (some (stepV a + g + fndI t - rfnI r - 1)) = some (some (stepV a - 1 - rfnI r + fndI t + g))
      congr 2
      omega
theorem cut_take (r : Ink) (s : Int) (h : 0 ≤ s) (h4 : s ≤ 4) (hr : r.length = 4) : cutI r none (some s) = some (r.take s.toNat) := by
  unfold cutI
  rw [if_pos (by omega)]
  obtain ⟨k, rfl⟩ : ∃ k : Nat, s = (k : Int) := ⟨s.toNat, by omega⟩
  have e : slIx r.length r.length (some (k : Int)) = k := by
    show (if (k : Int) < 0 then ((k : Int) + (r.length : Int)).toNat else min (k : Int).toNat r.length) = k
    rw [if_neg (by omega), Int.toNat_natCast, Nat.min_eq_left (by omega)]
  unfold cutM
  rw [e, Int.toNat_natCast]
  show some ((r.drop 0).take (k - 0)) = _
  simp
theorem fr_nn {a b : List Ink} (ha : InkOk a) (hb : InkOk b) {k f : Int} (hk : k ∈ four) (h : fr a b k = some f) : 0 ≤ f := by
  obtain ⟨_, s2, _, _⟩ := step_facts ha
  obtain ⟨r, gr, mr⟩ := get4 ha hk
  obtain ⟨t, gt, mt⟩ := get4 hb hk
  unfold fr at h
  rw [gr, gt] at h
  simp only [Option.bind_some] at h
  have := s2 r mr
  by_cases h3 : rfnI r < 0 ∨ fndI t < 0
  · rw [if_pos h3] at h; cases h
  · rw [if_neg h3] at h; cases h; omega
/-! the law's gap -/
def shorts (a b : List Ink) (p : Int) : List Int := 0 :: four.filterMap fun k => (fr a b k).map fun f => p - f
def gapV (a b : List Ink) (p : Int) : Int := (maxM (shorts a b p)).getD 0
theorem gap_facts (a b : List Ink) (p : Int) : maxM (shorts a b p) = some (gapV a b p) ∧ (∀ y ∈ shorts a b p, y ≤ gapV a b p) ∧ gapV a b p ∈ shorts a b p := by
  obtain ⟨m, h1, h2, h3⟩ := max_ok (xs := shorts a b p) (by simp [shorts])
  have e : gapV a b p = m := by unfold gapV; rw [h1]; rfl
  rw [e]
  exact ⟨h1, h2, h3⟩
theorem law_gap_ok {a b : List Ink} (ha : InkOk a) (hb : InkOk b) (p : Int) : m_law_gap a b p = some (gapV a b p) := by
  obtain ⟨hs, s2, s3, s4⟩ := step_facts ha
  have row : ∀ k ∈ four, ∀ acc : List Int, acc.length < 100 → m_law_gap_b1 a b p acc k = some (acc ++ ((fr a b k).map fun f => p - f).toList) := by
    intro k hk acc hz
    obtain ⟨r, gr, mr⟩ := get4 ha hk
    obtain ⟨t, gt, mt⟩ := get4 hb hk
    have lr := ha.2 r mr
    have lt := hb.2 t mt
    have hm := s2 r mr
    have w2 := rw2 r (rows4 r lr) (stepV a).toNat (by
      generalize stepV a = z at s3 s4
      have : z = 0 ∨ z = 1 ∨ z = 2 ∨ z = 3 ∨ z = 4 := by omega
      rcases this with e | e | e | e | e <;> rw [e] <;> decide) (by omega)
    obtain ⟨w21, w22, w23⟩ := w2
    obtain ⟨w31, w32, w33⟩ := rw3 t (rows4 t lt)
    have hc := cut_take r (stepV a) s3 s4 lr
    unfold m_law_gap_b1 fr
    rw [gr, gt]
    refine bindOk rfl (bindOk (show m_law_step a = some (stepV a) from hs) (bindOk hc (bindOk rfl ?_)))
    rw [w21, w31]
    simp only [Option.bind_some]
    by_cases h1 : rfnI r < 0 ∨ fndI t < 0
    · rw [if_pos h1]
      rw [if_neg (by simp; omega)]
      simp
    · rw [if_neg h1]
      rw [if_pos (by simp; omega)]
      have hl4 : (r.take (stepV a).toNat).length ≤ 4 := by rw [List.length_take]; omega
      have e3 := w23 (by omega)
      have e4 := w32 (by omega)
      have hr4 : (rstI (r.take (stepV a).toNat)).length ≤ 4 := by omega
      refine bindOk (a := acc ++ [p - (stepV a - 1 - rfnI r + fndI t)]) ?_ (by simp)
      refine bindOk (show lenI _ = some _ from if_pos (by omega)) (bindOk (show rstM _ = some _ from if_pos hl4) (bindOk (show lenI _ = some _ from if_pos (by omega)) (bindOk (show lenI _ = some _ from if_pos (by omega)) (bindOk (show lstM _ = some _ from if_pos (by omega)) (bindOk (show lenI _ = some _ from if_pos (by omega)) ?_)))))
      refine bindOk (appM_ok (by omega)) ?_
      congr 3
      omega
  have len1 : ∀ k, (((fr a b k).map fun f => p - f).toList).length ≤ 1 := fun k => by cases fr a b k <;> simp
  unfold m_law_gap
  refine bindOk rng4 (bindOk (a := shorts a b p) ?_ (bindOk (gap_facts a b p).1 rfl))
  have fol : ∀ (ks : List Int) (acc : List Int), (∀ k ∈ ks, k ∈ four) → acc.length + ks.length ≤ 90 → folM (m_law_gap_b1 a b p) ks acc = some (acc ++ ks.filterMap fun k => (fr a b k).map fun f => p - f) := by
    intro ks
    induction ks with
    | nil => intro acc _ _; simp [folM]
    | cons k ks ih =>
      intro acc hk hz
      have hz' : acc.length + (ks.length + 1) ≤ 90 := hz
      refine bindOk (row k (hk k (List.mem_cons_self ..)) acc (by omega)) ?_
      refine (ih _ (fun z hz => hk z (List.mem_cons_of_mem _ hz)) (by have := len1 k; rw [List.length_append]; omega)).trans ?_
      rw [List.filterMap_cons]
      cases (fr a b k).map fun f => p - f <;> simp
  exact fol four [0] (fun _ z => z) (by simp [four])
/-! the program's gap -/
def barP (a b : List Ink) (p g : Int) (k : Int) : Bool := match fr a b k with
  | some f => decide (f + g < p)
  | none => false
theorem bars_ok {a b : List Ink} (ha : InkOk a) (hb : InkOk b) (g p : Int) : m_row_that_bars a b g p = some (four.find? (barP a b p g)) := by
  have row : ∀ k ∈ four, m_row_that_bars_b1 a b g p () k = some (if barP a b p g k = true then .rt (some k) else .go ()) := by
    intro k hk
    unfold m_row_that_bars_b1
    refine bindOk (blanks_ok ha hb hk) ?_
    unfold barP
    cases fr a b k with
    | none => rfl
    | some f =>
      by_cases h : f + g < p
      · simp [h]
      · simp [h]
  have fol : ∀ ks : List Int, (∀ k ∈ ks, k ∈ four) → forL (m_row_that_bars_b1 a b g p) ks () = some (match ks.find? (barP a b p g) with
      | some k => .rt (some k)
      | none => .nx ()) := by
    intro ks
    induction ks with
    | nil => intro _; rfl
    | cons k ks ih =>
      intro hk
      have e := row k (hk k (List.mem_cons_self ..))
      have i := ih fun z hz => hk z (List.mem_cons_of_mem _ hz)
      rw [forL_cons]
      refine bindOk e ?_
      cases hp : barP a b p g k
      · rw [List.find?_cons_of_neg (by simp [hp])]
        exact i
      · rw [List.find?_cons_of_pos hp]
        rfl
  unfold m_row_that_bars
  refine bindOk rng4 (bindOk (fol four fun _ z => z) ?_)
  cases four.find? (barP a b p g) <;> rfl
theorem bars_none {a b : List Ink} {p g : Int} (hg : 0 ≤ g) : four.find? (barP a b p g) = none ↔ gapV a b p ≤ g := by
  obtain ⟨_, h2, h3⟩ := gap_facts a b p
  rw [List.find?_eq_none]
  constructor
  · intro h
    rcases List.mem_cons.mp h3 with e | e
    · omega
    · obtain ⟨k, hk, e⟩ := List.mem_filterMap.mp e
      have := h k hk
      unfold barP at this
      cases hf : fr a b k with
      | none => rw [hf] at e; cases e
      | some f =>
        rw [hf] at e this
        have e : p - f = gapV a b p := Option.some.inj e
        simp only [decide_eq_true_eq] at this
        omega
  · intro h k hk hb
    unfold barP at hb
    cases hf : fr a b k with
    | none => rw [hf] at hb; cases hb
    | some f =>
      rw [hf] at hb
      simp only [decide_eq_true_eq] at hb
      have := h2 (p - f) (List.mem_cons_of_mem _ (List.mem_filterMap.mpr ⟨k, hk, by rw [hf]; rfl⟩))
      omega
theorem gapV_nn (a b : List Ink) (p : Int) : 0 ≤ gapV a b p := (gap_facts a b p).2.1 0 (List.mem_cons_self ..)
theorem gapV_le {a b : List Ink} (ha : InkOk a) (hb : InkOk b) {p : Int} (hp : 0 ≤ p) : gapV a b p ≤ p := by
  rcases List.mem_cons.mp (gap_facts a b p).2.2 with e | e
  · omega
  · obtain ⟨k, hk, e⟩ := List.mem_filterMap.mp e
    cases hf : fr a b k with
    | none => rw [hf] at e; cases e
    | some f =>
      rw [hf] at e
      have e : p - f = gapV a b p := Option.some.inj e
      have := fr_nn ha hb hk hf
      omega
theorem while_ok {a b : List Ink} (ha : InkOk a) (hb : InkOk b) (p : Int) : ∀ (d : Nat) (n : Nat) (g : Int) (r : Option Int), 0 ≤ g → g + d = gapV a b p → d < n → ∃ r', whL (m_Face_gap_and_bar_b1 p a b) n (g, r) = some (.nx (gapV a b p, r'))
  | 0, n, g, r, hg, e, hn => by
    obtain ⟨m, rfl⟩ : ∃ m, n = m + 1 := ⟨n - 1, by omega⟩
    have e0 : g = gapV a b p := by omega
    refine ⟨r, ?_⟩
    rw [whL_succ]
    have hnone := (bars_none (a := a) (b := b) (p := p) hg).mpr (by omega)
    refine bindOk (a := .bk (g, r)) ?_ (by rw [e0]; rfl)
    unfold m_Face_gap_and_bar_b1
    refine bindOk (bars_ok ha hb g p) ?_
    rw [hnone]; rfl
  | d + 1, n, g, r, hg, e, hn => by
    obtain ⟨m, rfl⟩ : ∃ m, n = m + 1 := ⟨n - 1, by omega⟩
    cases hf : four.find? (barP a b p g) with
    | none =>
      have := (bars_none (a := a) (b := b) (p := p) hg).mp hf
      omega
    | some k =>
      obtain ⟨r', h⟩ := while_ok ha hb p d m (g + 1) (some k) (by omega) (by omega) (by omega)
      refine ⟨r', ?_⟩
      rw [whL_succ]
      refine bindOk (a := .go (g + 1, some k)) ?_ (show conW _ m (.go (g + 1, some k)) = _ from h)
      unfold m_Face_gap_and_bar_b1
      refine bindOk (bars_ok ha hb g p) ?_
      rw [hf]; rfl
theorem gap_and_bar_ok {a b : List Ink} (ha : InkOk a) (hb : InkOk b) {p : Int} (hp : 0 ≤ p ∧ p ≤ 2) : ∃ r, m_Face_gap_and_bar p a b = some (gapV a b p, r) := by
  have h1 := gapV_nn a b p
  have h2 := gapV_le ha hb hp.1
  obtain ⟨r, h⟩ := while_ok ha hb p (gapV a b p).toNat 1000000 0 none (by omega) (by omega) (by omega)
  exact ⟨r, bindOk h rfl⟩
end Mr

set_option linter.all false
set_option maxRecDepth 100000
set_option maxHeartbeats 1000000
/-! FcC: faces of boxes. -/
namespace Mr
theorem copy_fol {α : Type} {f : List α → α → Option (List α)} (hf : ∀ acc x, f acc x = (appM acc x).bind some) : ∀ (xs acc : List α), acc.length + xs.length ≤ 1000 → folM f xs acc = some (acc ++ xs)
  | [], acc, _ => by simp [folM]
  | x :: xs, acc, hz => by
    have hz' : acc.length + (xs.length + 1) ≤ 1000 := hz
    refine bindOk (a := acc ++ [x]) ((hf acc x).trans (bindOk (appM_ok (by omega)) rfl)) ?_
    refine (copy_fol hf xs _ (by simp; omega)).trans ?_
    simp
theorem map_fol {α β : Type} {f : List β → α → Option (List β)} {g : α → β} : ∀ (xs : List α) (acc : List β), (∀ acc x, x ∈ xs → acc.length < 1000 → f acc x = some (acc ++ [g x])) → acc.length + xs.length ≤ 1000 → folM f xs acc = some (acc ++ xs.map g)
  | [], acc, _, _ => by simp [folM]
  | x :: xs, acc, hf, hz => by
    have hz' : acc.length + (xs.length + 1) ≤ 1000 := hz
    refine bindOk (hf acc x (List.mem_cons_self ..) (by omega)) ?_
    refine (map_fol xs _ (fun acc y hy => hf acc y (List.mem_cons_of_mem _ hy)) (by simp; omega)).trans ?_
    simp
theorem mem_enum {α : Type} {xs : List α} {x : Int × α} (h : x ∈ enumM xs) : x.2 ∈ xs := by
  obtain ⟨i, hi⟩ := List.mem_iff_getElem?.mp h
  rw [enumM_get] at hi
  obtain ⟨y, h1, h2⟩ := Option.map_eq_some_iff.mp hi
  rw [← h2]
  exact List.mem_of_getElem? h1
def LtOk (bs : List Bx) : Prop := (1 ≤ bs.length ∧ bs.length ≤ 2) ∧ ∀ b ∈ bs, BxOk b
theorem outline_ok (w : Wrd) {bs : List Bx} (h : LtOk bs) : m_outline_of w (bs.map ringB) = some (bs.map ringB) := by
  obtain ⟨⟨h1, h2⟩, hb⟩ := h
  unfold m_outline_of
  refine bindOk (a := false) ?_ ?_
  · rw [if_neg (by decide), List.length_map]
    congr 1
    simp
    omega
  · rw [if_neg (by decide)]
    obtain ⟨s, hs, _⟩ := forL_inv (f := m_outline_of_b1) (fun _ => True) (enumM (bs.map ringB)) () True.intro (fun x hx s _ => by
      refine ⟨(), ?_, True.intro⟩
      obtain ⟨b, hb1, hb2⟩ := List.mem_map.mp (mem_enum hx)
      obtain ⟨k, r⟩ := x
      dsimp only at hb2
      subst hb2
      unfold m_outline_of_b1
      exact bindOk (ring_ok b (mem_boxes (hb b hb1))) rfl)
    refine bindOk hs ?_
    refine bindOk (map_fol (g := id) (bs.map ringB) [] (fun acc x hx hz => ?_) (by simp; omega)) (by simp)
    unfold m_outline_of_c2
    obtain ⟨b, hb1, hb2⟩ := List.mem_map.mp hx
    subst hb2
    refine bindOk (copy_fol (f := m_outline_of_c3) (fun _ _ => rfl) (ringB b) [] (by simp [ringB])) (bindOk (appM_ok (by omega)) ?_)
    simp
theorem step_pos {bs : List Bx} (h : LtOk bs) : 1 ≤ stepV (inkB bs) := by
  obtain ⟨⟨h1, h2⟩, hb⟩ := h
  obtain ⟨b, hbm⟩ : ∃ b, b ∈ bs := List.exists_mem_of_length_pos (by omega)
  obtain ⟨q1, q2, q3, q4, q5, q6⟩ := hb b hbm
  have hy : b.2.1 ∈ four := mem_four ⟨q4, by omega⟩
  have hx : b.1 ∈ four := mem_four ⟨q1, by omega⟩
  have hr : rowB bs b.2.1 ∈ inkB bs := List.mem_map.mpr ⟨_, hy, rfl⟩
  have ht : true ∈ rowB bs b.2.1 := List.mem_map.mpr ⟨_, hx, by
    unfold cellB
    rw [List.any_eq_true]
    exact ⟨b, hbm, by simp [insB]; omega⟩⟩
  have hl := (inkB_ok bs).2 _ hr
  have f := (rw1 _ (rows4 _ hl)).2.2.2.2 ht
  have := (step_facts (inkB_ok bs)).2.1 _ hr
  omega
theorem inks_fol : ∀ (ws : List Wrd) (bss : List (List Bx)) (acc : List (List Ink)), bss.length ≤ ws.length → (∀ bs ∈ bss, LtOk bs) → acc.length + bss.length ≤ 100 →
    forL m_Face___init___b1 (List.zip ws (bss.map fun bs => bs.map ringB)) acc = some (.nx (acc ++ bss.map inkB))
  | ws, [], acc, _, _, _ => by simp [forL]
  | [], _ :: _, _, h, _, _ => by simp at h
  | w :: ws, bs :: bss, acc, h, hb, hz => by
    have hz' : acc.length + (bss.length + 1) ≤ 100 := hz
    have hl : bss.length + 1 ≤ ws.length + 1 := h
    have h0 := hb bs (List.mem_cons_self ..)
    have hp := step_pos h0
    rw [List.map_cons, List.zip_cons_cons, forL_cons]
    refine bindOk (a := .go (acc ++ [inkB bs])) ?_ ?_
    · unfold m_Face___init___b1
      refine bindOk (outline_ok w h0) (bindOk (ink_of_ok h0.2) (bindOk (step_facts (inkB_ok bs)).1 ?_))
      rw [if_neg (by simp; omega)]
      exact bindOk (appM_ok (by omega)) rfl
    · refine (inks_fol ws bss (acc ++ [inkB bs]) (by omega) (fun c hc => hb c (List.mem_cons_of_mem _ hc)) (by simp; omega)).trans ?_
      simp
/-! ### the pairs -/
theorem getW_putW {α : Type} (kvs : List (Wrd × α)) (w u : Wrd) (x : α) : getW (putW kvs w x) u = if u = w then some x else getW kvs u := by
  have map_ne : ∀ kvs : List (Wrd × α), u ≠ w → getW (kvs.map fun p => if p.1 = w then (p.1, x) else p) u = getW kvs u := by
    intro kvs hu
    unfold getW
    induction kvs with
    | nil => rfl
    | cons p kvs ih =>
      rw [List.map_cons]
      by_cases c : p.1 = w
      · rw [if_pos c, List.find?_cons_of_neg (by simp; intro e; exact hu (by rw [← e, c])), List.find?_cons_of_neg (by simp; intro e; exact hu (by rw [← e, c]))]
        exact ih
      · rw [if_neg c]
        by_cases d : p.1 = u
        · rw [List.find?_cons_of_pos (by simpa using d), List.find?_cons_of_pos (by simpa using d)]
        · rw [List.find?_cons_of_neg (by simpa using d), List.find?_cons_of_neg (by simpa using d)]
          exact ih
  have map_eq : ∀ kvs : List (Wrd × α), (kvs.any fun p => decide (p.1 = w)) = true → getW (kvs.map fun p => if p.1 = w then (p.1, x) else p) w = some x := by
    intro kvs
    unfold getW
    induction kvs with
    | nil => intro h; cases h
    | cons p kvs ih =>
      intro h
      rw [List.map_cons]
      by_cases c : p.1 = w
      · rw [if_pos c, List.find?_cons_of_pos (by simpa using c)]; rfl
      · rw [if_neg c, List.find?_cons_of_neg (by simpa using c)]
        exact ih (by simpa [c] using h)
  unfold putW
  by_cases c : (kvs.any fun p => decide (p.1 = w)) = true
  · rw [if_pos c]
    by_cases e : u = w
    · subst e; rw [if_pos rfl]; exact map_eq kvs c
    · rw [if_neg e]; exact map_ne kvs e
  · rw [if_neg c]
    have hn : getW kvs w = none := by
      unfold getW
      rw [List.find?_eq_none.mpr]; rfl
      intro p hp hd
      exact c (List.any_eq_true.mpr ⟨p, hp, hd⟩)
    have happ : getW (kvs ++ [(w, x)]) u = (getW kvs u).or (if w = u then some x else none) := by
      unfold getW
      rw [List.find?_append]
      cases hh : kvs.find? fun p => decide (p.1 = u) with
      | some q => rfl
      | none =>
        rw [Option.none_or]
        show Option.map _ (List.find? _ [(w, x)]) = Option.or none _
        rw [Option.none_or]
        by_cases e : w = u
        · rw [List.find?_cons_of_pos (by simpa using e), if_pos e]; rfl
        · rw [List.find?_cons_of_neg (by simpa using e), if_neg e]; rfl
    rw [happ]
    by_cases e : u = w
    · subst e; rw [hn]; simp
    · rw [if_neg (fun z => e z.symm), if_neg e]; simp
theorem putW_len {α : Type} (kvs : List (Wrd × α)) (w : Wrd) (x : α) : (putW kvs w x).length ≤ kvs.length + 1 := by
  unfold putW
  split <;> simp
def putAll {α : Type} (L : List (Wrd × α)) (kvs : List (Wrd × α)) : List (Wrd × α) := L.foldl (fun k p => putW k p.1 p.2) kvs
theorem putAll_len {α : Type} : ∀ (L kvs : List (Wrd × α)), (putAll L kvs).length ≤ kvs.length + L.length
  | [], kvs => by simp [putAll]
  | p :: L, kvs => by
    have h1 := putW_len kvs p.1 p.2
    have h2 := putAll_len L (putW kvs p.1 p.2)
    show (putAll L (putW kvs p.1 p.2)).length ≤ _
    rw [List.length_cons]; omega
theorem putAll_get {α : Type} {F : Wrd → Option α} : ∀ (L kvs : List (Wrd × α)) (k : Wrd), (∀ p ∈ L, F p.1 = some p.2) → ((∃ p ∈ L, p.1 = k) → getW (putAll L kvs) k = F k) ∧ ((¬ ∃ p ∈ L, p.1 = k) → getW (putAll L kvs) k = getW kvs k)
  | [], kvs, k, _ => ⟨fun h => (let ⟨_, hp, _⟩ := h; nomatch hp), fun _ => rfl⟩
  | p :: L, kvs, k, h => by
    have ih := putAll_get (F := F) L (putW kvs p.1 p.2) k fun q hq => h q (List.mem_cons_of_mem _ hq)
    by_cases c : ∃ q ∈ L, q.1 = k
    · refine ⟨fun _ => ih.1 c, fun hn => absurd (let ⟨q, h1, h2⟩ := c; ⟨q, List.mem_cons_of_mem _ h1, h2⟩) hn⟩
    · have e := ih.2 c
      rw [getW_putW] at e
      refine ⟨fun ⟨q, h1, h2⟩ => ?_, fun hn => ?_⟩
      · rcases List.mem_cons.mp h1 with z | z
        · rw [show getW (putAll (p :: L) kvs) k = _ from e, if_pos (by rw [← h2, z]), ← h2, z]
          exact (h p (List.mem_cons_self ..)).symm
        · exact absurd ⟨q, z, h2⟩ c
      · rw [show getW (putAll (p :: L) kvs) k = _ from e, if_neg fun z => hn ⟨p, List.mem_cons_self .., z.symm⟩]
theorem putWM_ok {α : Type} {kvs : List (Wrd × α)} {w : Wrd} {x : α} (h : kvs.length < 1000) : putWM kvs w x = some (putW kvs w x) := if_pos (by omega)
theorem catT_ok {a b : Wrd} (h : a.length + b.length ≤ 1000) : catT a b = some (a ++ b) := if_pos (by omega)
/-- the gap and the bar of two inks -/
def gbV (p : Int) (a b : List Ink) : Int × Option Int := (m_Face_gap_and_bar p a b).getD (0, none)
theorem gbV_ok {a b : List Ink} (ha : InkOk a) (hb : InkOk b) {p : Int} (hp : 0 ≤ p ∧ p ≤ 2) : m_Face_gap_and_bar p a b = some (gbV p a b) ∧ (gbV p a b).1 = gapV a b p := by
  obtain ⟨r, h⟩ := gap_and_bar_ok ha hb hp
  have e : gbV p a b = (gapV a b p, r) := by unfold gbV; rw [h]; rfl
  rw [e]
  exact ⟨h, rfl⟩
theorem b3_fol {p : Int} (hp : 0 ≤ p ∧ p ≤ 2) {x3 : Wrd} {x4 : List Ink} (h3 : x3.length = 1) (h4 : InkOk x4) : ∀ (zs : List (Wrd × List Ink)) (kvs : List (Wrd × (Int × Option Int))), (∀ z ∈ zs, z.1.length = 1 ∧ InkOk z.2) → kvs.length + zs.length ≤ 500 →
    folM (m_Face___init___b3 p x3 x4) zs kvs = some (putAll (zs.map fun z => (x3 ++ z.1, gbV p x4 z.2)) kvs)
  | [], kvs, _, _ => rfl
  | z :: zs, kvs, h, hz => by
    have hz' : kvs.length + (zs.length + 1) ≤ 500 := hz
    obtain ⟨h1, h2⟩ := h z (List.mem_cons_self ..)
    refine bindOk (a := putW kvs (x3 ++ z.1) (gbV p x4 z.2)) ?_ ?_
    · obtain ⟨w, b⟩ := z
      dsimp only at h1 h2
      unfold m_Face___init___b3
      refine bindOk (gbV_ok h4 h2 hp).1 (bindOk (catT_ok (by omega)) (bindOk (putWM_ok (by omega)) rfl))
    · refine (b3_fol hp h3 h4 zs _ (fun y hy => h y (List.mem_cons_of_mem _ hy)) ?_).trans rfl
      have := putW_len kvs (x3 ++ z.1) (gbV p x4 z.2)
      omega
def lets : List Wrd := [[97], [98], [99], [100]]
def prs (p : Int) (inks : List (List Ink)) (z : Wrd × List Ink) : List (Wrd × (Int × Option Int)) := (List.zip lets inks).map fun y => (z.1 ++ y.1, gbV p z.2 y.2)
theorem zip_ok {inks : List (List Ink)} (hi : ∀ i ∈ inks, InkOk i) : ∀ z ∈ List.zip lets inks, z.1.length = 1 ∧ InkOk z.2 := fun z hz => by
  have h1 := (List.of_mem_zip hz).1
  have h2 := (List.of_mem_zip hz).2
  refine ⟨?_, hi _ h2⟩
  simp only [lets, List.mem_cons, List.not_mem_nil, or_false] at h1
  rcases h1 with e | e | e | e <;> rw [e] <;> rfl
theorem prs_len (p : Int) (inks : List (List Ink)) (z : Wrd × List Ink) : (prs p inks z).length ≤ 4 := by
  unfold prs
  rw [List.length_map, List.length_zip]
  exact Nat.min_le_left ..
theorem putAll_app {α : Type} (A B kvs : List (Wrd × α)) : putAll (A ++ B) kvs = putAll B (putAll A kvs) := by unfold putAll; rw [List.foldl_append]
theorem b2_fol {p : Int} (hp : 0 ≤ p ∧ p ≤ 2) {inks : List (List Ink)} (hi : ∀ i ∈ inks, InkOk i) : ∀ (zs : List (Wrd × List Ink)) (kvs : List (Wrd × (Int × Option Int))), (∀ z ∈ zs, z.1.length = 1 ∧ InkOk z.2) → kvs.length + 4 * zs.length ≤ 400 →
    folM (m_Face___init___b2 p inks) zs kvs = some (putAll (zs.flatMap (prs p inks)) kvs)
  | [], kvs, _, _ => rfl
  | z :: zs, kvs, h, hz => by
    have hz' : kvs.length + 4 * (zs.length + 1) ≤ 400 := hz
    obtain ⟨h1, h2⟩ := h z (List.mem_cons_self ..)
    have hzl : (List.zip lets inks).length ≤ 4 := by rw [List.length_zip]; exact Nat.min_le_left ..
    refine bindOk (a := putAll (prs p inks z) kvs) ?_ ?_
    · obtain ⟨w, b⟩ := z
      dsimp only at h1 h2
      unfold m_Face___init___b2
      exact bindOk (b3_fol hp h1 h2 (List.zip lets inks) kvs (zip_ok hi) (by omega)) rfl
    · rw [List.flatMap_cons, putAll_app]
      refine b2_fol hp hi zs _ (fun y hy => h y (List.mem_cons_of_mem _ hy)) ?_
      have e1 := putAll_len (prs p inks z) kvs
      have e2 := prs_len p inks z
      omega
/-- what a face tells -/
structure FcOk (f : Face) (inks : List (List Ink)) (p : Int) : Prop where
  ink : f.inks = inks
  len : 1 ≤ inks.length ∧ inks.length ≤ 4
  oks : ∀ i ∈ inks, InkOk i
  ap : 0 ≤ p ∧ p ≤ 2
  gap : ∀ i j (a b : List Ink), inks[i]? = some a → inks[j]? = some b → ∃ r, getW f.gaps_and_bars [97 + i, 97 + j] = some (gapV a b p, r)
def fOf (p : Int) (inks : List (List Ink)) : Wrd → Option (Int × Option Int)
  | [c, d] => some (gbV p (inks.getD (c - 97) []) (inks.getD (d - 97) []))
  | _ => none
theorem face_ok {bss : List (List Bx)} {p : Int} (h : ∀ bs ∈ bss, LtOk bs) (hl : 1 ≤ bss.length ∧ bss.length ≤ 4) (hp : 0 ≤ p ∧ p ≤ 2) : ∃ f, m_Face___init__ (bss.map fun bs => bs.map ringB) p = some f ∧ FcOk f (bss.map inkB) p := by
  have hi : ∀ i ∈ bss.map inkB, InkOk i := fun i hi => by
    obtain ⟨b, _, rfl⟩ := List.mem_map.mp hi
    exact inkB_ok b
  have hin : (bss.map inkB).length ≤ 4 := by rw [List.length_map]; exact hl.2
  refine ⟨⟨p, bss.map inkB, putAll ((List.zip lets (bss.map inkB)).flatMap (prs p (bss.map inkB))) []⟩, ?_, rfl, by rw [List.length_map]; exact hl, hi, hp, fun i j a b h1 h2 => ?_⟩
  · unfold m_Face___init__
    refine bindOk (a := none) ?_ ?_
    · unfold m_bad_count
      rw [List.length_map]
      rw [if_neg (by simp; omega), if_neg (by simp; omega)]
    · rw [if_neg (by simp)]
      refine bindOk (inks_fol lets bss [] (by simp [lets]; omega) h (by simp; omega)) ?_
      dsimp only
      rw [List.nil_append]
      refine bindOk (b2_fol hp hi _ [] (zip_ok hi) ?_) rfl
      rw [List.length_zip]
      have : min lets.length (bss.map inkB).length ≤ 4 := Nat.min_le_left ..
      simp only [List.length_nil]
      omega
  · have ok1 : ∀ i a, (bss.map inkB)[i]? = some a → ([97 + i], a) ∈ List.zip lets (bss.map inkB) := fun i a hh => by
      have hlt : i < (bss.map inkB).length := (List.getElem?_eq_some_iff.mp hh).1
      refine List.mem_of_getElem? (i := i) ?_
      rw [List.getElem?_zip_eq_some]
      refine ⟨?_, hh⟩
      have : i = 0 ∨ i = 1 ∨ i = 2 ∨ i = 3 := by omega
      rcases this with e | e | e | e <;> subst e <;> rfl
    have hF : ∀ q ∈ (List.zip lets (bss.map inkB)).flatMap (prs p (bss.map inkB)), fOf p (bss.map inkB) q.1 = some q.2 := by
      intro q hq
      obtain ⟨z, hz, hq⟩ := List.mem_flatMap.mp hq
      obtain ⟨y, hy, rfl⟩ := List.mem_map.mp hq
      have at_ : ∀ z ∈ List.zip lets (bss.map inkB), ∃ c, z.1 = [c] ∧ (bss.map inkB).getD (c - 97) [] = z.2 := by
        intro z hz
        obtain ⟨k, hk⟩ := List.mem_iff_getElem?.mp hz
        obtain ⟨h1, h2⟩ := List.getElem?_zip_eq_some.mp hk
        have hlt : k < lets.length := (List.getElem?_eq_some_iff.mp h1).1
        have hlt : k < 4 := hlt
        refine ⟨97 + k, ?_, ?_⟩
        · have : k = 0 ∨ k = 1 ∨ k = 2 ∨ k = 3 := by omega
          rcases this with e | e | e | e <;> subst e <;> exact (Option.some.inj h1).symm
        · rw [show 97 + k - 97 = k by omega, List.getD_eq_getElem?_getD, h2]; rfl
      obtain ⟨c, e1, e2⟩ := at_ z hz
      obtain ⟨d, e3, e4⟩ := at_ y hy
      show fOf p (bss.map inkB) (z.1 ++ y.1) = some (gbV p z.2 y.2)
      rw [e1, e3]
      show some (gbV p ((bss.map inkB).getD (c - 97) []) ((bss.map inkB).getD (d - 97) [])) = _
      rw [e2, e4]
    have hm : ([97 + i, 97 + j], gbV p a b) ∈ prs p (bss.map inkB) ([97 + i], a) := List.mem_map.mpr ⟨([97 + j], b), ok1 j b h2, rfl⟩
    have hm2 : ([97 + i, 97 + j], gbV p a b) ∈ (List.zip lets (bss.map inkB)).flatMap (prs p (bss.map inkB)) := List.mem_flatMap.mpr ⟨([97 + i], a), ok1 i a h1, hm⟩
    have g := (putAll_get _ [] [97 + i, 97 + j] hF).1 ⟨_, hm2, rfl⟩
    have e := gbV_ok (hi a (List.mem_of_getElem? h1)) (hi b (List.mem_of_getElem? h2)) hp
    refine ⟨(gbV p a b).2, g.trans ?_⟩
    show some (gbV p ((bss.map inkB).getD (97 + i - 97) []) ((bss.map inkB).getD (97 + j - 97) [])) = _
    rw [show 97 + i - 97 = i by omega, show 97 + j - 97 = j by omega, List.getD_eq_getElem?_getD, List.getD_eq_getElem?_getD, h1, h2]
    show some (gbV p a b) = _
    rw [← e.2]
theorem table_ok {inks : List (List Ink)} (hi : ∀ i ∈ inks, InkOk i) (hl : inks.length ≤ 4) (p : Int) : m_law_table inks p = some (inks.map fun a => inks.map fun b => gapV a b p) := by
  unfold m_law_table
  refine bindOk (map_fol (g := fun a => inks.map fun b => gapV a b p) inks [] (fun acc a ha hz => ?_) (by simp; omega)) (by simp)
  unfold m_law_table_c1
  refine bindOk (map_fol (g := fun b => gapV a b p) inks [] (fun acc b hb hz => ?_) (by simp; omega)) (bindOk (appM_ok (by omega)) (by simp))
  unfold m_law_table_c2
  exact bindOk (law_gap_ok (hi a ha) (hi b hb) p) (bindOk (appM_ok (by omega)) rfl)
end Mr

set_option linter.all false
set_option maxRecDepth 100000
set_option maxHeartbeats 1000000
/-! FcD: words. -/
namespace Mr
abbrev abcdW : Wrd := [97, 98, 99, 100]
def ltrs (n : Nat) : Wrd := abcdW.take n
theorem mem_ltrs {n c : Nat} (hn : n ≤ 4) : c ∈ ltrs n ↔ 97 ≤ c ∧ c < 97 + n := by
  have : n = 0 ∨ n = 1 ∨ n = 2 ∨ n = 3 ∨ n = 4 := by omega
  rcases this with e | e | e | e | e <;> subst e <;> simp [ltrs, abcdW] <;> omega
theorem cut_abcd {n : Nat} (hn : n ≤ 4) : cutT abcdW none (some (n : Int)) = some (ltrs n) := by
  have : n = 0 ∨ n = 1 ∨ n = 2 ∨ n = 3 ∨ n = 4 := by omega
  rcases this with e | e | e | e | e <;> subst e <;> rfl
theorem idx_abcd {i : Nat} (h : i < 4) : idxA abcdW [97 + i] = some (i : Int) := by
  have : i = 0 ∨ i = 1 ∨ i = 2 ∨ i = 3 := by omega
  rcases this with e | e | e | e <;> subst e <;> rfl
theorem get_abcd {i : Nat} (h : i < 4) : getT abcdW (i : Int) = some [97 + i] := by
  have : i = 0 ∨ i = 1 ∨ i = 2 ∨ i = 3 := by omega
  rcases this with e | e | e | e <;> subst e <;> rfl
section
variable {f : Face} {inks : List (List Ink)} {p : Int}
theorem ix_lt {i : Nat} {a : List Ink} (h : inks[i]? = some a) : i < inks.length := (List.getElem?_eq_some_iff.mp h).1
theorem letters_ok (o : FcOk f inks p) : m_Face_letters f = some (ltrs inks.length) := by
  unfold m_Face_letters
  rw [o.ink]
  exact bindOk (cut_abcd o.len.2) rfl
theorem place_ok (o : FcOk f inks p) {i : Nat} {a : List Ink} (h : inks[i]? = some a) : m_Face_place_of f [97 + i] = some (i : Int) := by
  have hi := ix_lt h
  have h4 := o.len.2
  unfold m_Face_place_of
  refine bindOk (a := false) ?_ ?_
  · rw [if_neg (by decide)]
    refine bindOk (show lenT [97 + i] = some 1 from rfl) ?_
    rw [if_neg (by decide)]
    refine bindOk (letters_ok o) (bindOk (show inT [97 + i] (ltrs inks.length) = some (decide (97 + i ∈ ltrs inks.length)) from rfl) ?_)
    rw [decide_eq_true ((mem_ltrs h4).mpr ⟨by omega, by omega⟩)]; rfl
  · rw [if_neg (by decide)]
    exact bindOk (idx_abcd (by omega)) rfl
theorem fink_ok (o : FcOk f inks p) {i : Nat} {a : List Ink} (h : inks[i]? = some a) : m_Face_ink f [97 + i] = some a := by
  unfold m_Face_ink
  refine bindOk (place_ok o h) ?_
  rw [o.ink]
  exact bindOk (getM_nat h) rfl
theorem fstep_ok (o : FcOk f inks p) {i : Nat} {a : List Ink} (h : inks[i]? = some a) : m_Face_step f [97 + i] = some (stepV a) := by
  unfold m_Face_step
  exact bindOk (fink_ok o h) (bindOk (step_facts (o.oks a (List.mem_of_getElem? h))).1 rfl)
theorem fgap_ok (o : FcOk f inks p) {i j : Nat} {a b : List Ink} (h : inks[i]? = some a) (h2 : inks[j]? = some b) : m_Face_gap f [97 + i] [97 + j] = some (gapV a b p) := by
  have hi := ix_lt h
  have hj := ix_lt h2
  have h4 := o.len.2
  obtain ⟨r, e⟩ := o.gap i j a b h h2
  unfold m_Face_gap m_Face_told_pair
  exact bindOk (bindOk (place_ok o h) (bindOk (get_abcd (by omega)) (bindOk (place_ok o h2) (bindOk (get_abcd (by omega)) (bindOk (catT_ok (a := [97 + i]) (b := [97 + j]) (by simp)) (bindOk e rfl)))))) rfl
/-! is_word -/
def isW (n : Nat) (w : Wrd) : Bool := (decide (1 ≤ w.length) && decide (w.length ≤ 40)) && w.all fun c => decide (c ∈ ltrs n)
theorem isw_fol {g : List Bool → Wrd → Option (List Bool)} {n : Nat} (hg : ∀ acc c, acc.length < 1000 → g acc [c] = some (acc ++ [decide (c ∈ ltrs n)])) : ∀ (w : Wrd) (acc : List Bool), acc.length + w.length ≤ 500 → folM g (sgT w) acc = some (acc ++ w.map fun c => decide (c ∈ ltrs n))
  | [], acc, _ => by simp [folM, sgT]
  | c :: w, acc, hz => by
    have hz' : acc.length + (w.length + 1) ≤ 500 := hz
    refine bindOk (hg acc c (by omega)) ?_
    refine (isw_fol hg w _ (by simp; omega)).trans ?_
    simp
theorem lenT_ok {w : Wrd} (h : w.length ≤ 500) : lenT w = some (w.length : Int) := if_pos (by omega)
theorem isw_c1 (o : FcOk f inks p) (acc : List Bool) (c : Nat) (h : acc.length < 1000) : m_is_word_c1 f acc [c] = some (acc ++ [decide (c ∈ ltrs inks.length)]) := by
  unfold m_is_word_c1
  exact bindOk (letters_ok o) (bindOk rfl (bindOk (appM_ok (by omega)) rfl))
theorem isw_ok (o : FcOk f inks p) {w : Wrd} (h : w.length ≤ 400) : m_is_word f w = some (isW inks.length w) := by
  unfold m_is_word isW
  refine bindOk (a := !(decide (1 ≤ w.length) && decide (w.length ≤ 40))) ?_ ?_
  · rw [if_neg (by decide)]
    refine bindOk (lenT_ok (by omega)) ?_
    have e1 : decide ((1 : Int) ≤ (w.length : Int)) = decide (1 ≤ w.length) := decide_eq_decide.mpr (by omega)
    have e2 : decide ((w.length : Int) ≤ (40 : Int)) = decide (w.length ≤ 40) := decide_eq_decide.mpr (by omega)
    rw [e1, e2]
  · by_cases c : (decide (1 ≤ w.length) && decide (w.length ≤ 40)) = true
    · rw [c, if_neg (by decide)]
      refine bindOk (isw_fol (isw_c1 o) w [] (by simp; omega)) ?_
      rw [List.nil_append, Bool.true_and, List.all_map]
      rfl
    · have c : (decide (1 ≤ w.length) && decide (w.length ≤ 40)) = false := by simpa using c
      rw [c]; rfl
theorem isw1_ok (o : FcOk f inks p) {x : TxO} (h : ∀ w, toW x = some w → w.length ≤ 400) : m_is_word__1 f x = some (match x with
    | .inl w => isW inks.length w
    | .inr _ => false) := by
  cases x with
  | inr d => rfl
  | inl w =>
    have h := h w rfl
    have e := isw_ok o h
    refine Eq.trans ?_ e
    rfl
/-! columns -/
def WdOk (n : Nat) (w : Wrd) : Prop := isW n w = true
theorem WdOk.len {n : Nat} {w : Wrd} (h : WdOk n w) : 1 ≤ w.length ∧ w.length ≤ 40 := by
  unfold WdOk isW at h
  simp only [Bool.and_eq_true, decide_eq_true_eq] at h
  exact h.1
theorem WdOk.let {w : Wrd} (h : WdOk inks.length w) (hn : inks.length ≤ 4) {c : Nat} (hc : c ∈ w) : ∃ i a, c = 97 + i ∧ inks[i]? = some a := by
  unfold WdOk isW at h
  simp only [Bool.and_eq_true, List.all_eq_true, decide_eq_true_eq] at h
  have := (mem_ltrs hn).mp (h.2 c hc)
  refine ⟨c - 97, inks[c - 97]'(by omega), by omega, List.getElem?_eq_getElem _⟩
theorem WdOk.mk {n : Nat} {w : Wrd} (hn : n ≤ 4) (h1 : 1 ≤ w.length) (h2 : w.length ≤ 40) (h : ∀ c ∈ w, 97 ≤ c ∧ c < 97 + n) : WdOk n w := by
  unfold WdOk isW
  simp only [Bool.and_eq_true, List.all_eq_true, decide_eq_true_eq]
  exact ⟨⟨h1, h2⟩, fun c hc => (mem_ltrs hn).mpr (h c hc)⟩
theorem WdOk.sub {n : Nat} {w u : Wrd} (hn : n ≤ 4) (h : WdOk n w) (h1 : 1 ≤ u.length) (h2 : u.length ≤ 40) (hs : ∀ c ∈ u, c ∈ w) : WdOk n u := by
  have h' := h
  unfold WdOk isW at h'
  simp only [Bool.and_eq_true, List.all_eq_true, decide_eq_true_eq] at h'
  exact WdOk.mk hn h1 h2 fun c hc => (mem_ltrs hn).mp (h'.2 c (hs c hc))
def adv (inks : List (List Ink)) (p : Int) (c d : Nat) : Int := stepV (inks.getD (c - 97) []) + gapV (inks.getD (c - 97) []) (inks.getD (d - 97) []) p
theorem adv_at {i j : Nat} {a b : List Ink} (h : inks[i]? = some a) (h2 : inks[j]? = some b) : adv inks p (97 + i) (97 + j) = stepV a + gapV a b p := by
  unfold adv
  rw [show 97 + i - 97 = i by omega, show 97 + j - 97 = j by omega, List.getD_eq_getElem?_getD, List.getD_eq_getElem?_getD, h, h2]; rfl
end
def cols (F : Nat → Nat → Int) : Int → Wrd → List Int
  | _, [] => []
  | a, [_] => [a]
  | a, c :: d :: r => a :: cols F (a + F c d) (d :: r)
theorem cols_cons (F : Nat → Nat → Int) (a : Int) (c : Nat) (r : Wrd) : cols F a (c :: r) = a :: (cols F a (c :: r)).tail := by
  cases r <;> rfl
theorem cols_len (F : Nat → Nat → Int) : ∀ (w : Wrd) (a : Int), (cols F a w).length = w.length
  | [], _ => rfl
  | [_], _ => rfl
  | c :: d :: r, a => by
    show (cols F (a + F c d) (d :: r)).length + 1 = _
    rw [cols_len F (d :: r)]; rfl
theorem last_get {α : Type} (xs : List α) (z : α) : getM (xs ++ [z]) (-(1 : Int)) = some z := by
  have h : ixM (xs ++ [z]).length (-(1 : Int)) = some xs.length := by
    unfold ixM
    rw [List.length_append, List.length_singleton]
    rw [if_neg (by decide), if_pos (by omega)]
    congr 1
    omega
  unfold getM
  refine bindOk h ?_
  simp
theorem getT_nat {w : Wrd} {k c : Nat} (hl : w.length ≤ 500) (h : w[k]? = some c) : getT w (k : Int) = some [c] := by
  unfold getT
  rw [if_pos (by omega)]
  exact bindOk (getM_nat h) rfl
theorem cols_fol {F : Nat → Nat → Int} {w : Wrd} {b1 : List Int → Int → Option (List Int)} (hw : w.length ≤ 500)
    (hb : ∀ (fs : List Int) (z : Int) (k c d : Nat), w[k]? = some c → w[k + 1]? = some d → fs.length < 1000 → b1 (fs ++ [z]) (((k + 1 : Nat) : Int)) = some (fs ++ [z] ++ [z + F c d])) :
    ∀ (suf pre : Wrd) (c : Nat) (fs : List Int) (z : Int), w = pre ++ c :: suf → fs.length = pre.length → folM b1 ((List.range' (pre.length + 1) suf.length).map fun (i : Nat) => (i : Int)) (fs ++ [z]) = some (fs ++ cols F z (c :: suf))
  | [], pre, c, fs, z, _, _ => rfl
  | d :: suf, pre, c, fs, z, e, hf => by
    have hl : w.length = pre.length + (suf.length + 1 + 1) := by rw [e]; simp
    rw [List.length_cons, List.range'_succ, List.map_cons]
    refine bindOk (hb fs z pre.length c d (by rw [e]; simp) (by rw [e]; simp) (by omega)) ?_
    have := cols_fol hw hb suf (pre ++ [c]) d (fs ++ [z]) (z + F c d) (by rw [e]; simp) (by simp; omega)
    rw [List.length_append, List.length_singleton] at this
    refine this.trans ?_
    show some (fs ++ [z] ++ cols F (z + F c d) (d :: suf)) = some (fs ++ (z :: cols F (z + F c d) (d :: suf)))
    simp
theorem rng2_ok {a b : Nat} (h : a ≤ b) (hb : b ≤ 100000) : rng2M (a : Int) (b : Int) = some ((List.range' a (b - a)).map fun (i : Nat) => (i : Int)) := by
  unfold rng2M
  rw [if_pos (by omega)]
  congr 1
  have e : ((b : Int) - (a : Int)).toNat = b - a := by omega
  rw [e, List.range'_eq_map_range, List.map_map]
  apply List.map_congr_left
  intro i _
  simp
theorem cols_run {F : Nat → Nat → Int} {w : Wrd} {b1 : List Int → Int → Option (List Int)} (hw : 1 ≤ w.length ∧ w.length ≤ 500)
    (hb : ∀ (fs : List Int) (z : Int) (k c d : Nat), w[k]? = some c → w[k + 1]? = some d → fs.length < 1000 → b1 (fs ++ [z]) (((k + 1 : Nat) : Int)) = some (fs ++ [z] ++ [z + F c d])) :
    (Option.bind (rng2M (1 : Int) (w.length : Int)) fun xs => folM b1 xs [(0 : Int)]) = some (cols F 0 w) := by
  refine bindOk (rng2_ok (a := 1) (b := w.length) hw.1 (by omega)) ?_
  cases w with
  | nil => simp at hw
  | cons c r =>
    have := cols_fol hw.2 hb r [] c [] 0 rfl rfl
    simpa using this
section
variable {f : Face} {inks : List (List Ink)} {p : Int}
theorem columns_ok (o : FcOk f inks p) {w : Wrd} (h : WdOk inks.length w) : m_columns f w = some (cols (adv inks p) 0 w) := by
  have hl := h.len
  unfold m_columns
  refine bindOk (isw_ok o (by omega)) ?_
  rw [show isW inks.length w = true from h, if_neg (by decide)]
  refine bindOk (lenT_ok (by omega)) ?_
  refine Eq.trans ?_ (cols_run (b1 := m_columns_b1 f w) ⟨hl.1, by omega⟩ fun fs z k c d hc hd hz => ?_)
  · cases rng2M (1 : Int) (w.length : Int) with
    | none => rfl
    | some xs =>
      show Option.bind (folM (m_columns_b1 f w) xs [0]) some = folM (m_columns_b1 f w) xs [0]
      cases folM (m_columns_b1 f w) xs [0] <;> rfl
  · obtain ⟨i, a, rfl, hi⟩ := h.let o.len.2 (List.mem_of_getElem? hc)
    obtain ⟨j, b, rfl, hj⟩ := h.let o.len.2 (List.mem_of_getElem? hd)
    unfold m_columns_b1
    rw [show ((k + 1 : Nat) : Int) - 1 = (k : Int) by omega]
    refine bindOk (getT_nat (by omega) hc) (bindOk (getT_nat (by omega) hd) (bindOk (last_get fs z) (bindOk (fstep_ok o hi) (bindOk (fgap_ok o hi hj) (bindOk (appM_ok (by simp; omega)) ?_)))))
    rw [adv_at hi hj]
    congr 3
    omega
theorem law_columns_ok (o : FcOk f inks p) {w : Wrd} (h : WdOk inks.length w) : m_law_columns inks (inks.map fun a => inks.map fun b => gapV a b p) w = some (cols (adv inks p) 0 w) := by
  have hl := h.len
  unfold m_law_columns
  refine bindOk (lenT_ok (by omega)) ?_
  refine Eq.trans ?_ (cols_run (b1 := m_law_columns_b1 inks (inks.map fun a => inks.map fun b => gapV a b p) w) ⟨hl.1, by omega⟩ fun fs z k c d hc hd hz => ?_)
  · cases rng2M (1 : Int) (w.length : Int) with
    | none => rfl
    | some xs =>
      show Option.bind (folM (m_law_columns_b1 inks (inks.map fun a => inks.map fun b => gapV a b p) w) xs [0]) some = folM _ xs [0]
      cases folM (m_law_columns_b1 inks (inks.map fun a => inks.map fun b => gapV a b p) w) xs [0] <;> rfl
  · obtain ⟨i, a, rfl, hi⟩ := h.let o.len.2 (List.mem_of_getElem? hc)
    obtain ⟨j, b, rfl, hj⟩ := h.let o.len.2 (List.mem_of_getElem? hd)
    have h4 := o.len.2
    have i4 := ix_lt hi
    have j4 := ix_lt hj
    unfold m_law_columns_b1
    rw [show ((k + 1 : Nat) : Int) - 1 = (k : Int) by omega]
    refine bindOk (getT_nat (by omega) hc) (bindOk (idx_abcd (by omega)) (bindOk (getT_nat (by omega) hd) (bindOk (idx_abcd (by omega)) (bindOk (last_get fs z) (bindOk (getM_nat hi) (bindOk (step_facts (o.oks a (List.mem_of_getElem? hi))).1
      (bindOk (getM_nat (x := inks.map fun b => gapV a b p) (by rw [List.getElem?_map, hi]; rfl)) (bindOk (getM_nat (x := gapV a b p) (by rw [List.getElem?_map, hj]; rfl)) (bindOk (appM_ok (by simp; omega)) ?_)))))))))
    rw [adv_at hi hj]
    congr 3
    omega
end
end Mr

set_option linter.all false
set_option maxRecDepth 100000
set_option maxHeartbeats 1000000
/-! FcE: widths, stamps, cuts. -/
namespace Mr
theorem slIx_k {n d k : Nat} (h : k ≤ n) : slIx n d (some (k : Int)) = k := by
  show (if (k : Int) < 0 then ((k : Int) + (n : Int)).toNat else min (k : Int).toNat n) = k
  rw [if_neg (by omega), Int.toNat_natCast, Nat.min_eq_left h]
theorem cut_drop {α : Type} (xs : List α) {k : Nat} (h : k ≤ xs.length) : cutM xs (some (k : Int)) none = xs.drop k := by
  unfold cutM
  rw [slIx_k h]
  show (xs.drop k).take (xs.length - k) = _
  exact List.take_of_length_le (by rw [List.length_drop]; omega)
theorem cut_takeM {α : Type} (xs : List α) {k : Nat} (h : k ≤ xs.length) : cutM xs none (some (k : Int)) = xs.take k := by
  unfold cutM
  rw [slIx_k h]
  show (xs.drop 0).take (k - 0) = _
  simp
theorem cutT_drop {w : Wrd} {k : Nat} (hl : w.length ≤ 500) (h : k ≤ w.length) : cutT w (some (k : Int)) none = some (w.drop k) := by
  unfold cutT
  rw [if_pos (by omega), cut_drop w h]
theorem cutT_take {w : Wrd} {k : Nat} (hl : w.length ≤ 500) (h : k ≤ w.length) : cutT w none (some (k : Int)) = some (w.take k) := by
  unfold cutT
  rw [if_pos (by omega), cut_takeM w h]
theorem cols_take (F : Nat → Nat → Int) : ∀ (w : Wrd) (a : Int) (k : Nat), (cols F a w).take k = cols F a (w.take k)
  | w, a, 0 => by simp [cols]
  | [], a, k + 1 => rfl
  | [c], a, k + 1 => by simp [cols]
  | c :: d :: r, a, 1 => by simp [cols]
  | c :: d :: r, a, k + 2 => by
    have := cols_take F (d :: r) (a + F c d) (k + 1)
    show a :: (cols F (a + F c d) (d :: r)).take (k + 1) = _
    rw [this]
    simp [cols]
theorem cols_drop (F : Nat → Nat → Int) : ∀ (w : Wrd) (a z : Int) (k : Nat), (cols F a w)[k]? = some z → (cols F a w).drop k = cols F z (w.drop k)
  | [], a, z, k, h => by simp [cols] at h
  | [c], a, z, 0, h => by
    have h : a = z := by simpa [cols] using h
    rw [h]; rfl
  | [c], a, z, k + 1, h => by simp [cols] at h
  | c :: d :: r, a, z, 0, h => by
    have h : a = z := by simpa [cols] using h
    rw [h]; rfl
  | c :: d :: r, a, z, k + 1, h => by
    have h : (cols F (a + F c d) (d :: r))[k]? = some z := by simpa [cols] using h
    exact cols_drop F (d :: r) (a + F c d) z k h
theorem cols_shift (F : Nat → Nat → Int) (z : Int) : ∀ (w : Wrd) (a : Int), cols F (z + a) w = (cols F a w).map fun x => z + x
  | [], a => rfl
  | [c], a => rfl
  | c :: d :: r, a => by
    show (z + a) :: cols F (z + a + F c d) (d :: r) = (z + a) :: (cols F (a + F c d) (d :: r)).map fun x => z + x
    rw [show z + a + F c d = z + (a + F c d) by omega, cols_shift F z (d :: r)]
theorem list_last {α : Type} {xs : List α} (h : 1 ≤ xs.length) : ∃ ys z, xs = ys ++ [z] := ⟨xs.dropLast, xs.getLast (fun e => by rw [e] at h; simp at h), (List.dropLast_concat_getLast _).symm⟩
section
variable {f : Face} {inks : List (List Ink)} {p : Int}
theorem cut_stands_ok (o : FcOk f inks p) {w : Wrd} (h : WdOk inks.length w) {k : Nat} (hk : k < w.length) : m_law_cut_stands f w (k : Int) = some true := by
  have hl := h.len
  have hd : WdOk inks.length (w.drop k) := h.sub o.len.2 (by rw [List.length_drop]; omega) (by rw [List.length_drop]; omega) fun c hc => List.mem_of_mem_drop hc
  have ht : WdOk inks.length (w.take (k + 1)) := h.sub o.len.2 (by rw [List.length_take]; omega) (by rw [List.length_take]; omega) fun c hc => List.mem_of_mem_take hc
  have hL := cols_len (adv inks p) w 0
  obtain ⟨z, hz⟩ : ∃ z, (cols (adv inks p) 0 w)[k]? = some z := ⟨_, List.getElem?_eq_getElem (by omega)⟩
  unfold m_law_cut_stands
  refine bindOk (columns_ok o h) (bindOk (cutT_drop (by omega) (by omega)) (bindOk (columns_ok o hd) ?_))
  rw [show (k : Int) + 1 = ((k + 1 : Nat) : Int) by omega]
  refine bindOk (cutT_take (by omega) (by omega)) (bindOk (columns_ok o ht) ?_)
  rw [cut_takeM _ (by omega), cut_drop _ (by omega), cols_take]
  rw [if_neg (by simp)]
  refine bindOk (map_fol (g := fun x => z + x) (cols (adv inks p) 0 (w.drop k)) [] (fun acc x hx hz2 => ?_) (by rw [cols_len, List.length_drop, List.length_nil]; omega)) ?_
  · unfold m_law_cut_stands_c1
    exact bindOk (getM_nat hz) (bindOk (appM_ok (by omega)) rfl)
  · rw [List.nil_append, cols_drop _ _ _ _ _ hz, ← cols_shift]
    simp
theorem width_ok (o : FcOk f inks p) {w : Wrd} {pre : Wrd} {i : Nat} {a : List Ink} (h : WdOk inks.length w) (e : w = pre ++ [97 + i]) (hi : inks[i]? = some a) {ys : List Int} {z : Int} (hz : cols (adv inks p) 0 w = ys ++ [z]) : m_width f w = some (z + stepV a) := by
  have hl := h.len
  unfold m_width
  refine bindOk (columns_ok o h) ?_
  rw [hz]
  refine bindOk (last_get ys z) (bindOk (a := [97 + i]) ?_ (bindOk (fstep_ok o hi) rfl))
  unfold getT
  rw [if_pos (by omega), e]
  exact bindOk (last_get pre (97 + i)) rfl
def inkOf (inks : List (List Ink)) : Wrd → List Ink
  | [c] => inks.getD (c - 97) []
  | _ => []
theorem inkOf_at {i : Nat} {a : List Ink} (h : inks[i]? = some a) : inkOf inks [97 + i] = a := by
  show inks.getD (97 + i - 97) [] = a
  rw [show 97 + i - 97 = i by omega, List.getD_eq_getElem?_getD, h]; rfl
theorem stamps_ok (o : FcOk f inks p) {w : Wrd} (h : WdOk inks.length w) : m_stamps f w = some ((List.zip (sgT w) (cols (adv inks p) 0 w)).map fun y => (inkOf inks y.1, y.2)) := by
  have hl := h.len
  unfold m_stamps
  refine bindOk (columns_ok o h) (bindOk (map_fol (g := fun y => (inkOf inks y.1, y.2)) _ [] (fun acc y hy hz => ?_) ?_) ?_)
  · obtain ⟨u, x⟩ := y
    have h1 := (List.of_mem_zip hy).1
    obtain ⟨c, hc, rfl⟩ := List.mem_map.mp h1
    obtain ⟨i, a, rfl, hi⟩ := h.let o.len.2 hc
    unfold m_stamps_c1
    refine bindOk (fink_ok o hi) (bindOk (appM_ok (by omega)) ?_)
    rw [inkOf_at hi]
  · rw [List.length_zip, cols_len, List.length_nil]
    have : min (sgT w).length w.length ≤ w.length := Nat.min_le_right ..
    omega
  · rw [List.nil_append]
theorem word_stands_ok (o : FcOk f inks p) {w : Wrd} (h : WdOk inks.length w) : m_law_word_stands f inks (inks.map fun a => inks.map fun b => gapV a b p) w = some true := by
  have hl := h.len
  have hL := cols_len (adv inks p) w 0
  obtain ⟨pre, c, ew⟩ := list_last hl.1
  obtain ⟨i, a, rfl, hi⟩ := h.let o.len.2 (show c ∈ w by rw [ew]; simp)
  obtain ⟨ys, z, ez⟩ := list_last (xs := cols (adv inks p) 0 w) (by omega)
  have hs := (step_facts (o.oks a (List.mem_of_getElem? hi))).1
  have h4 := o.len.2
  have i4 := ix_lt hi
  unfold m_law_word_stands
  refine bindOk (law_columns_ok o h) (bindOk (columns_ok o h) (bindOk (width_ok o h ew hi ez) (bindOk (stamps_ok o h) ?_)))
  refine bindOk (a := false) ?_ ?_
  · rw [if_neg (by decide), if_neg (by simp)]
    refine bindOk (a := true) (bindOk (map_fol (g := fun _ => true) _ [] (fun acc x hx hz => ?_) (by rw [List.length_nil]; omega)) ?_) rfl
    · unfold m_law_word_stands_c1
      exact bindOk rfl (bindOk (appM_ok (by omega)) rfl)
    · simp
  rw [if_neg (by decide)]
  refine bindOk (a := false) ?_ ?_
  · refine bindOk (a := true) rfl ?_
    rw [if_neg (by decide)]
    rw [ez]
    refine bindOk (last_get ys z) (bindOk (a := [97 + i]) ?_ (bindOk (idx_abcd (by omega)) (bindOk (getM_nat hi) (bindOk (show m_law_step a = some (stepV a) from hs) (by simp)))))
    unfold getT
    rw [if_pos (by omega), ew]
    exact bindOk (last_get pre (97 + i)) rfl
  rw [if_neg (by decide)]
  refine bindOk (a := false) ?_ ?_
  · rw [if_neg (by decide)]
    refine bindOk (lenT_ok (by omega)) ?_
    rw [if_neg (by
      rw [List.length_map, List.length_zip, hL]
      simp [sgT])]
    refine bindOk (isw_ok o (by omega)) ?_
    rw [show isW inks.length w = true from h]; rfl
  rw [if_neg (by decide)]
  obtain ⟨s, hfor, _⟩ := forL_inv (f := m_law_word_stands_b2 inks w (cols (adv inks p) 0 w)) (fun _ => True) (enumM ((List.zip (sgT w) (cols (adv inks p) 0 w)).map fun y => (inkOf inks y.1, y.2))) () True.intro (fun x hx s _ => by
    refine ⟨(), ?_, True.intro⟩
    obtain ⟨k, hk⟩ := List.mem_iff_getElem?.mp hx
    rw [enumM_get, List.getElem?_map] at hk
    obtain ⟨q, h1, h2⟩ := Option.map_eq_some_iff.mp hk
    obtain ⟨y, h3, h4'⟩ := Option.map_eq_some_iff.mp h1
    obtain ⟨h5, h6⟩ := List.getElem?_zip_eq_some.mp h3
    unfold sgT at h5
    rw [List.getElem?_map] at h5
    obtain ⟨c, h7, h8⟩ := Option.map_eq_some_iff.mp h5
    obtain ⟨j, b, rfl, hj⟩ := h.let o.len.2 (List.mem_of_getElem? h7)
    have j4 := ix_lt hj
    subst h2
    subst h4'
    obtain ⟨y1, y2⟩ := y
    dsimp only at h8 h6 ⊢
    subst h8
    unfold m_law_word_stands_b2
    refine bindOk (a := false) ?_ rfl
    rw [if_neg (by decide)]
    refine bindOk (getT_nat (by omega) h7) (bindOk (idx_abcd (by omega)) (bindOk (getM_nat hj) (bindOk (getM_nat h6) ?_)))
    rw [inkOf_at hj]
    simp)
  refine bindOk hfor ?_
  dsimp only
  refine bindOk (appM_ok (by omega)) (bindOk (columns_ok o h) ?_)
  simp
end
end Mr

set_option linter.all false
set_option maxRecDepth 100000
set_option maxHeartbeats 1000000
/-! FcF: what is no word is refused. -/
namespace Mr
open PySem PySem.Spec PySem.Builtin.Str
/-- the signs of wrong words -/
def AL : List Nat := [97, 98, 99, 100, 101, 65, 32, 35, 48, 122]
theorem al_len : ∀ q ∈ [34, 39], ∀ c ∈ AL, (reprChar q c).length ≤ 4 := by decide +kernel
theorem al_ok : ∀ c ∈ AL, c < 0x110000 := by decide +kernel
theorem rp_fold (q : Nat) (hq : q ∈ [34, 39]) : ∀ (l : List Nat) (n : Nat), (∀ c ∈ l, c ∈ AL) → l.foldl (fun n c => n + (reprChar q c).length) n ≤ n + 4 * l.length
  | [], n, _ => by simp
  | c :: l, n, h => by
    have h1 := al_len q hq c (h c (List.mem_cons_self ..))
    have h2 := rp_fold q hq l (n + (reprChar q c).length) fun d hd => h d (List.mem_cons_of_mem _ hd)
    rw [List.foldl_cons, List.length_cons]
    omega
theorem rp_len {w : Wrd} (h : ∀ c ∈ w, c ∈ AL) : (reprText (e_T w)).length ≤ 2 + 4 * w.length := by
  rw [← reprLen_eq]
  have hq : reprQuote (e_T w) ∈ [34, 39] := by
    unfold reprQuote
    split <;> simp
  have := rp_fold _ hq w 2 h
  rw [← Array.foldl_toList]
  simpa [e_T] using this
def Good (d : PyData) : Prop := fmtM d = some () ∧ eqA d d = some true
theorem sizeM : (1000000 : Nat) ≤ sizeLine := by decide
theorem tx_ok {w : Wrd} (h : ∀ c ∈ w, c ∈ AL) : PyData.strOk (e_T w) = true := by
  unfold PyData.strOk e_T
  rw [← Array.all_toList]
  simp only [List.all_eq_true, decide_eq_true_eq]
  intro c hc
  exact al_ok c (h c (by simpa using hc))
theorem eqA_of {d : PyData} (h1 : d.canLay0 = true) (h2 : d.depth ≤ 64) (h3 : PyData.eqv d d = true) : eqA d d = some true := by
  have hs : shA d = some d := by
    unfold shA
    rw [if_pos (by rw [h1, decide_eq_true h2]; rfl)]
  unfold eqA
  exact bindOk hs (bindOk hs (by rw [h3]))
theorem good_tx {w : Wrd} (hl : w.length ≤ 1000) (h : ∀ c ∈ w, c ∈ AL) : Good (.str (e_T w)) := by
  have h1 := rp_len h
  have h2 := sizeM
  refine ⟨?_, eqA_of ?_ ?_ ?_⟩
  · unfold fmtM fmtB
    rw [if_pos]
    have h5 : (e_T w).length = w.length := by simp [e_T, Str.length]
    have a1 : rok (.str (e_T w)) = true := by simp only [rok]; exact decide_eq_true (by omega)
    have a2 : decide (rcost (.str (e_T w)) + 10 ≤ 1000000) = true := by simp only [rcost]; exact decide_eq_true (by omega)
    have a3 : decide ((PyData.str (e_T w)).depth ≤ 50) = true := by simp only [PyData.depth]; exact decide_eq_true (by omega)
    have a4 : decide ((e_T w).length ≤ 1000000) = true := decide_eq_true (by omega)
    rw [a1, a2, a3]
    exact a4
  · simp only [PyData.canLay0]; exact tx_ok h
  · simp [PyData.depth]
  · simp [PyData.eqv]
theorem lst_cost : ∀ {w : Wrd}, (∀ c ∈ w, c ∈ AL) → rcostAll ((w.map fun c => [c]).map fun z => PyData.str (e_T z)) ≤ 8 * w.length ∧ rokAll ((w.map fun c => [c]).map fun z => PyData.str (e_T z)) = true ∧ PyData.depthAll ((w.map fun c => [c]).map fun z => PyData.str (e_T z)) ≤ 2 ∧
    PyData.canLayAll0 ((w.map fun c => [c]).map fun z => PyData.str (e_T z)) = true ∧ PyData.eqvAll ((w.map fun c => [c]).map fun z => PyData.str (e_T z)) ((w.map fun c => [c]).map fun z => PyData.str (e_T z)) = true
  | [], _ => by simp [rcostAll, rokAll, PyData.depthAll, PyData.canLayAll0, PyData.eqvAll]
  | c :: w, h => by
    obtain ⟨i1, i2, i3, i4, i5⟩ := lst_cost (w := w) fun d hd => h d (List.mem_cons_of_mem _ hd)
    have hc : ∀ d ∈ [c], d ∈ AL := fun d hd => by
      rw [List.mem_singleton.mp hd]; exact h c (List.mem_cons_self ..)
    have h1 := rp_len hc
    have h2 := sizeM
    have h3 : (reprText (e_T [c])).length ≤ 6 := h1
    rw [List.map_cons, List.map_cons]
    simp only [rcostAll, rokAll, PyData.depthAll, PyData.canLayAll0, PyData.eqvAll, rcost, rok, PyData.depth, PyData.canLay0, PyData.eqv, i2, i4, i5, tx_ok hc, Bool.and_true, List.length_cons, decide_eq_true_eq]
    refine ⟨by omega, by omega, ?_, trivial, by simp⟩
    exact Nat.max_le.mpr ⟨by omega, i3⟩
theorem good_lst {w : Wrd} (hl : w.length ≤ 1000) (h : ∀ c ∈ w, c ∈ AL) : Good (.list ((w.map fun c => [c]).map fun z => PyData.str (e_T z))) := by
  obtain ⟨i1, i2, i3, i4, i5⟩ := lst_cost h
  refine ⟨?_, eqA_of ?_ ?_ ?_⟩
  · unfold fmtM fmtB
    rw [if_pos]
    have a2 : decide (rcost (.list ((w.map fun c => [c]).map fun z => PyData.str (e_T z))) + 10 ≤ 1000000) = true := by simp only [rcost]; exact decide_eq_true (by omega)
    have a3 : decide ((PyData.list ((w.map fun c => [c]).map fun z => PyData.str (e_T z))).depth ≤ 50) = true := by simp only [PyData.depth]; exact decide_eq_true (by omega)
    have a1 : rok (.list ((w.map fun c => [c]).map fun z => PyData.str (e_T z))) = true := by simp only [rok]; exact i2
    rw [a1, a2, a3]
    rfl
  · simp only [PyData.canLay0]; exact i4
  · simp only [PyData.depth]; omega
  · simp only [PyData.eqv]; exact i5
theorem good_none : Good .none := ⟨by decide +kernel, by decide +kernel⟩
theorem good_0 : Good (.int 0) := ⟨by decide +kernel, by decide +kernel⟩
theorem good_7 : Good (.int 7) := ⟨by decide +kernel, by decide +kernel⟩
theorem good_a : Good (.list (([([97] : Wrd)] : List Wrd).map fun z => (PyData.str (e_T z)))) := ⟨by decide +kernel, by decide +kernel⟩
theorem good_aa : Good (.tuple [(PyData.str (e_T (([97] : Wrd), ([97] : Wrd)).1)), (PyData.str (e_T (([97] : Wrd), ([97] : Wrd)).2))]) := ⟨by decide +kernel, by decide +kernel⟩
/-- what is no word of a face with n letters -/
def NoWd (n : Nat) (x : TxO) : Prop := Good (toA x) ∧ match x with
  | .inl w => isW n w = false ∧ w.length ≤ 400
  | .inr _ => True
section
variable {f : Face} {inks : List (List Ink)} {p : Int}
theorem refusals_ok (o : FcOk f inks p) {x : TxO} (h : NoWd inks.length x) : m_law_refusals_stand f x = some true := by
  obtain ⟨⟨g1, g2⟩, h2⟩ := h
  have hw : m_is_word__1 f x = some false := by
    have := isw1_ok o (x := x) fun w hw => by
      cases x with
      | inl u => cases hw; exact h2.2
      | inr d => cases hw
    rw [this]
    cases x with
    | inl u => exact congrArg some h2.1
    | inr d => rfl
  have hc : m_columns__1 f x = some (.er (.BadWord (toA x))) := by
    unfold m_columns__1
    refine bindOk hw ?_
    rw [if_pos (by decide)]
    exact bindOk g1 rfl
  have ht : ∀ {α : Type}, m_law_refused (.er (.BadWord (toA x)) : Rs ExM α) (toA x) = some true := by
    intro α
    show m_law_refused_er (.BadWord (toA x)) (toA x) = some true
    unfold m_law_refused_er
    exact bindOk (bindOk g2 rfl) rfl
  unfold m_law_refusals_stand
  refine bindOk (a := (false, ())) (bindOk hw ?_) ?_
  · rw [if_neg (by decide)]
    exact bindOk hc (bindOk ht rfl)
  dsimp only
  rw [if_neg (by decide)]
  refine bindOk (a := .er (.BadWord (toA x))) ?_ (bindOk ht ?_)
  · unfold m_width__1
    exact bindOk hc rfl
  rw [if_neg (by decide)]
  refine bindOk (a := .er (.BadWord (toA x))) ?_ (bindOk ht rfl)
  unfold m_stamps__1
  exact bindOk hc rfl
end
end Mr

set_option linter.all false
set_option maxRecDepth 100000
set_option maxHeartbeats 1000000
namespace Mr
open PySem PySem.Spec
/-! ### what is drawn -/
theorem box_draw {b : List Int} (hb : BagOk b) : ∃ x b', m_law_box b 4 = some (ringB x, b') ∧ BxOk x ∧ BagOk b' := by
  obtain ⟨x1, b1, e1, p1, q1, B1⟩ := draw_ok hb (n := 4) (by decide) (by decide)
  obtain ⟨x2, b2, e2, p2, q2, B2⟩ := draw_ok B1 (n := 4) (by decide) (by decide)
  obtain ⟨x3, b3, e3, p3, q3, B3⟩ := draw_ok B2 (n := 4 - x1) (by omega) (by omega)
  obtain ⟨x4, b4, e4, p4, q4, B4⟩ := draw_ok B3 (n := 4 - x2) (by omega) (by omega)
  refine ⟨(x1, x2, x1 + 1 + x3, x2 + 1 + x4), b4, ?_, ⟨p1, ?_, ?_, p2, ?_, ?_⟩, B4⟩
  · unfold m_law_box
    exact bindOk e1 (bindOk e2 (bindOk e3 (bindOk e4 rfl)))
  all_goals dsimp only; omega
theorem outs_fol : ∀ (xs : List Int) (b : List Int) (acc : List (List Bx)), BagOk b → (∀ bs ∈ acc, LtOk bs) → acc.length + xs.length ≤ 100 → ∃ (b' : List Int) (bss : List (List Bx)), folM (m_law_outlines_b1 4) xs (b, acc.map fun bs => bs.map ringB) = some (b', bss.map fun bs => bs.map ringB) ∧ BagOk b' ∧ (∀ bs ∈ bss, LtOk bs) ∧ bss.length = acc.length + xs.length
  | [], b, acc, hb, ha, _ => ⟨b, acc, rfl, hb, ha, by simp⟩
  | x :: xs, b, acc, hb, ha, hz => by
    have hz' : acc.length + (xs.length + 1) ≤ 100 := hz
    obtain ⟨k1, b1, e1, o1, B1⟩ := box_draw hb
    obtain ⟨r, b2, e2, p2, q2, B2⟩ := draw_ok B1 (n := 2) (by decide) (by decide)
    have hR : ∃ (bs : List Bx) (b3 : List Int), (Option.bind (m_law_draw b1 (2 : Int)) fun (r4, bag_here8) =>
  if (decide (r4 = (1 : Int))) then (Option.bind (m_law_box bag_here8 4) fun (r5, bag_here9) =>
  Option.bind (appM ([ringB k1] : List (List (Int × Int))) r5) fun rings3 =>
  some (bag_here9, rings3))
  else (some (bag_here8, ([ringB k1] : List (List (Int × Int)))))) = some (b3, bs.map ringB) ∧ LtOk bs ∧ BagOk b3 := by
      by_cases h : r = 1
      · obtain ⟨k2, b3, e3, o3, B3⟩ := box_draw B2
        refine ⟨[k1, k2], b3, bindOk e2 ((if_pos (by simpa using h)).trans (bindOk e3 (bindOk (appM_ok (by simp)) rfl))), ⟨⟨by simp, by simp⟩, fun k hk => ?_⟩, B3⟩
        simp only [List.mem_cons, List.not_mem_nil, or_false] at hk
        rcases hk with e | e <;> rw [e] <;> assumption
      · refine ⟨[k1], b2, bindOk e2 (if_neg (by simpa using h)), ⟨⟨by simp, by simp⟩, fun k hk => ?_⟩, B2⟩
        rw [List.mem_singleton.mp hk]; exact o1
    obtain ⟨bs, b3, e3, L3, B3⟩ := hR
    obtain ⟨b', bss, e4, B4, L4, n4⟩ := outs_fol xs b3 (acc ++ [bs]) B3 (fun c hc => by
      rcases List.mem_append.mp hc with z | z
      · exact ha c z
      · rw [List.mem_singleton.mp z]; exact L3) (by simp; omega)
    refine ⟨b', bss, ?_, B4, L4, by rw [n4]; simp; omega⟩
    refine bindOk (a := (b3, (acc ++ [bs]).map fun bs => bs.map ringB)) ?_ e4
    unfold m_law_outlines_b1
    dsimp only
    refine bindOk e1 (bindOk e3 (bindOk (appM_ok (by simp; omega)) ?_))
    simp
theorem outs_draw {b : List Int} (hb : BagOk b) {n : Int} (hn : 1 ≤ n ∧ n ≤ 4) : ∃ (bss : List (List Bx)) (b' : List Int), m_law_outlines b n 4 = some (bss.map (fun bs => bs.map ringB), b') ∧ (∀ bs ∈ bss, LtOk bs) ∧ (bss.length : Int) = n ∧ BagOk b' := by
  obtain ⟨b', bss, e, B, L, l⟩ := outs_fol ((List.range n.toNat).map fun (i : Nat) => (i : Int)) b [] hb (fun _ h => nomatch h) (by simp; omega)
  refine ⟨bss, b', ?_, L, ?_, B⟩
  · unfold m_law_outlines
    exact bindOk (rngM_ok (by omega) (by omega)) (bindOk e rfl)
  · rw [l]; simp; omega
theorem word_fol {n : Nat} (hn : 1 ≤ n ∧ n ≤ 4) : ∀ (xs : List Int) (b : List Int) (w : Wrd), BagOk b → (∀ c ∈ w, 97 ≤ c ∧ c < 97 + n) → w.length + xs.length ≤ 100 → ∃ b' w', folM (m_law_word_b1 (n : Int)) xs (b, w) = some (b', w') ∧ BagOk b' ∧ (∀ c ∈ w', 97 ≤ c ∧ c < 97 + n) ∧ w'.length = w.length + xs.length
  | [], b, w, hb, hw, _ => ⟨b, w, rfl, hb, hw, by simp⟩
  | x :: xs, b, w, hb, hw, hz => by
    have hz' : w.length + (xs.length + 1) ≤ 100 := hz
    obtain ⟨r, b1, e1, p1, q1, B1⟩ := draw_ok hb (n := (n : Int)) (by omega) (by omega)
    obtain ⟨k, rfl⟩ : ∃ k : Nat, r = (k : Int) := ⟨r.toNat, by omega⟩
    obtain ⟨b', w', e2, B2, h2, l2⟩ := word_fol hn xs b1 (w ++ [97 + k]) B1 (fun c hc => by
      rcases List.mem_append.mp hc with z | z
      · exact hw c z
      · rw [List.mem_singleton.mp z]; omega) (by simp; omega)
    refine ⟨b', w', ?_, B2, h2, by rw [l2]; simp; omega⟩
    refine bindOk (a := (b1, w ++ [97 + k])) ?_ e2
    unfold m_law_word_b1
    exact bindOk e1 (bindOk (get_abcd (by omega)) (bindOk (catT_ok (by simp; omega)) rfl))
theorem word_draw {b : List Int} (hb : BagOk b) {n : Nat} (hn : 1 ≤ n ∧ n ≤ 4) {m : Int} (hm : 1 ≤ m ∧ m ≤ 40) : ∃ w b', m_law_word b (n : Int) m = some (w, b') ∧ WdOk n w ∧ (w.length : Int) ≤ m ∧ (∀ c ∈ w, 97 ≤ c ∧ c < 97 + n) ∧ BagOk b' := by
  obtain ⟨r, b1, e1, p1, q1, B1⟩ := draw_ok hb (n := m) (by omega) (by omega)
  obtain ⟨b', w, e2, B2, h2, l2⟩ := word_fol hn ((List.range (1 + r).toNat).map fun (i : Nat) => (i : Int)) b1 [] B1 (fun _ h => nomatch h) (by simp; omega)
  have l3 : w.length = (1 + r).toNat := by rw [l2]; simp
  refine ⟨w, b', ?_, WdOk.mk hn.2 (by omega) (by omega) h2, by omega, h2, B2⟩
  unfold m_law_word
  exact bindOk e1 (bindOk (rngM_ok (by omega) (by omega)) (bindOk e2 rfl))
theorem al_of {n : Nat} (hn : n ≤ 4) {w : Wrd} (h : ∀ c ∈ w, 97 ≤ c ∧ c < 97 + n) : ∀ c ∈ w, c ∈ AL := fun c hc => by
  have := h c hc
  have : c = 97 ∨ c = 98 ∨ c = 99 ∨ c = 100 := by omega
  rcases this with e | e | e | e <;> rw [e] <;> decide
theorem get_mem {α : Type} {xs : List α} {r : Int} (h0 : 0 ≤ r) (h1 : r < (xs.length : Int)) : ∃ x, getM xs r = some x ∧ x ∈ xs := by
  obtain ⟨k, rfl⟩ : ∃ k : Nat, r = (k : Int) := ⟨r.toNat, by omega⟩
  have hk : k < xs.length := by omega
  exact ⟨xs[k], getM_nat (List.getElem?_eq_getElem hk), List.getElem_mem _⟩
def byB (n : Nat) (u : Wrd) : Bool := match u with
  | [c] => decide (c ∈ AL) && !decide (c ∈ ltrs n)
  | _ => false
theorem byB_ok {n : Nat} {u : Wrd} (h : byB n u = true) : ∃ c, u = [c] ∧ c ∈ AL ∧ c ∉ ltrs n := by
  unfold byB at h
  split at h
  · rename_i c
    simp only [Bool.and_eq_true, decide_eq_true_eq, Bool.not_eq_true', decide_eq_false_iff_not] at h
    exact ⟨c, rfl, h.1, h.2⟩
  · cases h
theorem beyond {n : Nat} (hn : n ≤ 4) : ∀ u ∈ (abcdW.drop n).map (fun c => [c]) ++ ([([101] : Wrd), ([65] : Wrd), ([32] : Wrd), ([35] : Wrd), ([48] : Wrd), ([122] : Wrd)] : List Wrd), ∃ c, u = [c] ∧ c ∈ AL ∧ c ∉ ltrs n := by
  have h : ∀ u ∈ (abcdW.drop n).map (fun c => [c]) ++ ([([101] : Wrd), ([65] : Wrd), ([32] : Wrd), ([35] : Wrd), ([48] : Wrd), ([122] : Wrd)] : List Wrd), byB n u = true := by
    have : n = 0 ∨ n = 1 ∨ n = 2 ∨ n = 3 ∨ n = 4 := by omega
    rcases this with e | e | e | e | e <;> subst e <;> decide
  exact fun u hu => byB_ok (h u hu)
theorem cutT_any {w : Wrd} {k : Nat} (hl : w.length ≤ 500) : cutT w none (some (k : Int)) = some (w.take k) := by
  unfold cutT
  rw [if_pos (by omega)]
  congr 1
  have e : slIx w.length w.length (some (k : Int)) = min k w.length := by
    show (if (k : Int) < 0 then ((k : Int) + (w.length : Int)).toNat else min (k : Int).toNat w.length) = min k w.length
    rw [if_neg (by omega), Int.toNat_natCast]
  unfold cutM
  rw [e]
  show (w.drop 0).take (min k w.length - 0) = _
  rw [List.drop_zero, Nat.sub_zero, ← List.take_take, List.take_length]
theorem wrong_draw {b : List Int} (hb : BagOk b) {n : Nat} (hn : 1 ≤ n ∧ n ≤ 4) : ∃ x b', m_law_wrong_word b (n : Int) = some (x, b') ∧ NoWd n x ∧ BagOk b' := by
  obtain ⟨w, b1, e1, W1, l1, h1, B1⟩ := word_draw hb hn (m := 39) (by decide)
  have wl := W1.len
  have wal := al_of hn.2 h1
  obtain ⟨r2, b2, e2, p2, q2, B2⟩ := draw_ok B1 (n := (w.length : Int) + 1) (by omega) (by omega)
  obtain ⟨k, rfl⟩ : ∃ k : Nat, r2 = (k : Int) := ⟨r2.toNat, by omega⟩
  obtain ⟨Z, hZ⟩ : ∃ Z, Z = (abcdW.drop n).map (fun c => [c]) ++ ([([101] : Wrd), ([65] : Wrd), ([32] : Wrd), ([35] : Wrd), ([48] : Wrd), ([122] : Wrd)] : List Wrd) := ⟨_, rfl⟩
  have hZl : 6 ≤ Z.length ∧ Z.length ≤ 10 := by rw [hZ]; simp [abcdW]
  obtain ⟨r3, b3, e3, p3, q3, B3⟩ := draw_ok B2 (n := (Z.length : Int)) (by omega) (by omega)
  obtain ⟨u, hu, mu⟩ := get_mem (xs := Z) p3 q3
  obtain ⟨c, rfl, cal, cn⟩ := beyond hn.2 u (hZ ▸ mu)
  obtain ⟨r4, b4, e4, p4, q4, B4⟩ := draw_ok B3 (n := 3) (by decide) (by decide)
  obtain ⟨m, rfl⟩ : ∃ m : Nat, r4 = (m : Int) := ⟨r4.toNat, by omega⟩
  obtain ⟨r5, b5, e5, p5, q5, B5⟩ := draw_ok B4 (n := 2) (by decide) (by decide)
  obtain ⟨A, hA⟩ : ∃ A : Wrd, A = (List.replicate (40 : Int).toNat [97]).flatten := ⟨_, rfl⟩
  have hAl : A.length = 40 ∧ ∀ c ∈ A, c ∈ AL := by rw [hA]; decide
  obtain ⟨t6, ht6⟩ : ∃ t6 : Wrd, t6 = (w ++ w ++ A).take (41 + m) := ⟨_, rfl⟩
  have ht6l : 41 ≤ t6.length ∧ t6.length ≤ 50 := by rw [ht6, List.length_take]; simp only [List.length_append]; omega
  have ht6a : ∀ c ∈ t6, c ∈ AL := fun c hc => by
    rw [ht6] at hc
    rcases List.mem_append.mp (List.mem_of_mem_take hc) with z | z
    · rcases List.mem_append.mp z with z | z <;> exact wal c z
    · exact hAl.2 c z
  have hfin : ∃ x b', (Option.bind (m_law_draw b4 (2 : Int)) fun (r5, bag_here6) =>
  if (decide (r5 = (0 : Int))) then (Option.bind (cutT w none (some (k : Int))) fun t7 =>
  Option.bind (catT t7 [c]) fun t8 =>
  Option.bind (cutT w (some (k : Int)) none) fun t9 =>
  Option.bind (catT t8 t9) fun t10 =>
  some ((Sum.inl t10 : TxO), bag_here6)) else (Option.bind (m_law_one__1 bag_here6 ([(Sum.inl ([] : Wrd) : TxO), (Sum.inr PyData.none : TxO), (Sum.inr (PyData.int (0 : Int)) : TxO), (Sum.inr (PyData.int (7 : Int)) : TxO), (Sum.inr (PyData.list (([([97] : Wrd)] : List Wrd).map fun z => (PyData.str (e_T z)))) : TxO), (Sum.inr (PyData.tuple [(PyData.str (e_T (([97] : Wrd), ([97] : Wrd)).1)), (PyData.str (e_T (([97] : Wrd), ([97] : Wrd)).2))]) : TxO), (Sum.inl t6 : TxO), (Sum.inr (PyData.list ((w.map fun c => [c]).map fun z => (PyData.str (e_T z)))) : TxO)] : List TxO)) fun (r6, bag_here7) =>
  some (r6, bag_here7))) = some (x, b') ∧ NoWd n x ∧ BagOk b' := by
    by_cases h : r5 = 0
    · refine ⟨.inl (w.take k ++ [c] ++ w.drop k), b5, ?_, ⟨good_tx (by simp; omega) fun d hd => ?_, ?_, by simp; omega⟩, B5⟩
      · refine bindOk e5 ((if_pos (by simpa using h)).trans ?_)
        exact bindOk (cutT_take (by omega) (by omega)) (bindOk (catT_ok (by simp; omega)) (bindOk (cutT_drop (by omega) (by omega)) (bindOk (catT_ok (by simp; omega)) rfl)))
      · rcases List.mem_append.mp hd with z | z
        · rcases List.mem_append.mp z with z | z
          · exact wal d (List.mem_of_mem_take z)
          · rw [List.mem_singleton.mp z]; exact cal
        · exact wal d (List.mem_of_mem_drop z)
      · unfold isW
        rw [Bool.and_eq_false_iff]
        right
        rw [List.all_eq_false]
        exact ⟨c, by simp, by simpa using cn⟩
    · have hl8 : ∀ x ∈ ([(Sum.inl ([] : Wrd) : TxO), (Sum.inr PyData.none : TxO), (Sum.inr (PyData.int (0 : Int)) : TxO), (Sum.inr (PyData.int (7 : Int)) : TxO), (Sum.inr (PyData.list (([([97] : Wrd)] : List Wrd).map fun z => (PyData.str (e_T z)))) : TxO), (Sum.inr (PyData.tuple [(PyData.str (e_T (([97] : Wrd), ([97] : Wrd)).1)), (PyData.str (e_T (([97] : Wrd), ([97] : Wrd)).2))]) : TxO), (Sum.inl t6 : TxO), (Sum.inr (PyData.list ((w.map fun c => [c]).map fun z => (PyData.str (e_T z)))) : TxO)] : List TxO), NoWd n x := by
        intro x hx
        rcases List.mem_cons.mp hx with e | hx
        · subst e; exact ⟨good_tx (by simp) (fun _ h => nomatch h), rfl, by simp⟩
        rcases List.mem_cons.mp hx with e | hx
        · subst e; exact ⟨good_none, trivial⟩
        rcases List.mem_cons.mp hx with e | hx
        · subst e; exact ⟨good_0, trivial⟩
        rcases List.mem_cons.mp hx with e | hx
        · subst e; exact ⟨good_7, trivial⟩
        rcases List.mem_cons.mp hx with e | hx
        · subst e; exact ⟨good_a, trivial⟩
        rcases List.mem_cons.mp hx with e | hx
        · subst e; exact ⟨good_aa, trivial⟩
        rcases List.mem_cons.mp hx with e | hx
        · subst e
          refine ⟨good_tx (by omega) ht6a, ?_, by omega⟩
          unfold isW
          rw [decide_eq_false (show ¬ t6.length ≤ 40 by omega), Bool.and_false, Bool.false_and]
        rcases List.mem_cons.mp hx with e | hx
        · subst e; exact ⟨good_lst (by omega) wal, trivial⟩
        cases hx
      obtain ⟨r6, b6, e6, p6, q6, B6⟩ := draw_ok B5 (n := 8) (by decide) (by decide)
      obtain ⟨x, hx, mx⟩ := get_mem (xs := ([(Sum.inl ([] : Wrd) : TxO), (Sum.inr PyData.none : TxO), (Sum.inr (PyData.int (0 : Int)) : TxO), (Sum.inr (PyData.int (7 : Int)) : TxO), (Sum.inr (PyData.list (([([97] : Wrd)] : List Wrd).map fun z => (PyData.str (e_T z)))) : TxO), (Sum.inr (PyData.tuple [(PyData.str (e_T (([97] : Wrd), ([97] : Wrd)).1)), (PyData.str (e_T (([97] : Wrd), ([97] : Wrd)).2))]) : TxO), (Sum.inl t6 : TxO), (Sum.inr (PyData.list ((w.map fun c => [c]).map fun z => (PyData.str (e_T z)))) : TxO)] : List TxO)) p6 q6
      refine ⟨x, b6, bindOk e5 ((if_neg (by simpa using h)).trans ?_), hl8 x mx, B6⟩
      refine bindOk (a := (x, b6)) ?_ rfl
      unfold m_law_one__1
      exact bindOk e6 (bindOk hx rfl)
  obtain ⟨x, b', e6, N6, B6⟩ := hfin
  refine ⟨x, b', ?_, N6, B6⟩
  unfold m_law_wrong_word
  refine bindOk e1 (bindOk (lenT_ok (by omega)) (bindOk e2 (bindOk (cutT_drop (w := abcdW) (k := n) (by decide) hn.2) (bindOk (show lsTx (abcdW.drop n) = some ((abcdW.drop n).map fun c => [c]) from if_pos (by simp [abcdW]; omega)) ?_))))
  refine bindOk (a := Z) (by rw [hZ]; exact if_pos (by simp [abcdW]; omega)) ?_
  refine bindOk (a := ([c], b3)) (by unfold m_law_one; exact bindOk e3 (bindOk hu rfl)) ?_
  refine bindOk (catT_ok (by omega)) (bindOk (a := A) (by rw [hA]; rfl) (bindOk (catT_ok (by simp; omega)) (bindOk e4 ?_)))
  dsimp only
  rw [show (41 : Int) + (m : Int) = ((41 + m : Nat) : Int) by omega]
  refine bindOk (a := t6) ?_ ?_
  · rw [ht6]
    exact cutT_any (by simp; omega)
  refine bindOk (show lsTx w = some (w.map fun c => [c]) from if_pos (by omega)) ?_
  exact bindOk e6 rfl
/-! ### the law -/
def MdOk (x : Face × (List (List Ink)) × (List (List Int))) : Prop := ∃ p, FcOk x.1 x.2.1 p ∧ x.2.2 = x.2.1.map fun a => x.2.1.map fun b => gapV a b p
theorem b2_ok {b : List Int} {md : List (Face × (List (List Ink)) × (List (List Int)))} {x : Int} (hb : BagOk b) (hl : md.length < 100) : ∃ b' y, m_law_b2 (b, md) x = some (b', md ++ [y]) ∧ BagOk b' ∧ MdOk y := by
  obtain ⟨r1, b1, e1, p1, q1, B1⟩ := draw_ok hb (n := 4) (by decide) (by decide)
  obtain ⟨r2, b2, e2, p2, q2, B2⟩ := draw_ok B1 (n := 3) (by decide) (by decide)
  obtain ⟨bss, b3, e3, L3, l3, B3⟩ := outs_draw B2 (n := 1 + r1) (by omega)
  obtain ⟨f, e4, o4⟩ := face_ok (bss := bss) (p := r2) L3 (by omega) (by omega)
  refine ⟨b3, (f, bss.map inkB, (bss.map inkB).map fun a => (bss.map inkB).map fun b => gapV a b r2), ?_, B3, r2, o4, rfl⟩
  unfold m_law_b2
  dsimp only
  refine bindOk e1 (bindOk e2 (bindOk e3 (bindOk (a := bss.map inkB) ?_ (bindOk e4 (bindOk (table_ok o4.oks o4.len.2 r2) (bindOk (appM_ok (by omega)) rfl))))))
  have h4 := o4.len.2
  rw [List.length_map] at h4
  have := map_fol (f := m_law_c3) (g := fun rs => (m_law_ink rs).getD []) (bss.map fun bs => bs.map ringB) [] (fun acc rs hr hz => by
    obtain ⟨bs, hb1, rfl⟩ := List.mem_map.mp hr
    have hL := (L3 bs hb1).1
    unfold m_law_c3
    refine bindOk (law_ink_ok (by omega)) (bindOk (appM_ok (by omega)) ?_)
    rw [law_ink_ok (by omega)]; rfl) (by simp; omega)
  rw [this, List.nil_append, List.map_map]
  congr 1
  apply List.map_congr_left
  intro bs hb1
  have hL := (L3 bs hb1).1
  show (m_law_ink (bs.map ringB)).getD [] = _
  rw [law_ink_ok (by omega)]; rfl
theorem b5_ok {x4 : Int} {y : Face × (List (List Ink)) × (List (List Int))} (hy : MdOk y) {b : List Int} (hb : BagOk b) : ∃ b', m_law_b5 x4 b y = some (.go b') ∧ BagOk b' := by
  obtain ⟨p, o, ht⟩ := hy
  have hn := o.len
  obtain ⟨w, b1, e1, W1, l1, h1, B1⟩ := word_draw hb hn (m := if (decide (x4 < (2 : Int))) then (6 : Int) else (40 : Int)) (by split <;> decide)
  have wl := W1.len
  obtain ⟨r, b2, e2, p2, q2, B2⟩ := draw_ok B1 (n := (w.length : Int)) (by omega) (by omega)
  obtain ⟨k, rfl⟩ : ∃ k : Nat, r = (k : Int) := ⟨r.toNat, by omega⟩
  obtain ⟨x, b3, e3, N3, B3⟩ := wrong_draw B2 hn
  refine ⟨b3, ?_, B3⟩
  unfold m_law_b5
  refine bindOk e1 (bindOk (a := true) (by rw [ht]; exact word_stands_ok o W1) ?_)
  rw [if_neg (by decide)]
  refine bindOk (lenT_ok (by omega)) (bindOk e2 (bindOk (cut_stands_ok o W1 (by omega)) ?_))
  rw [if_neg (by decide)]
  refine bindOk e3 (bindOk (refusals_ok o N3) ?_)
  rfl
theorem turn_all {ns : List Int} {j : Nat} : m_law_b1 ns () (j : Int) = some (.go ()) := by
  unfold m_law_b1
  obtain ⟨b, e0, B⟩ := bag_ok (ns := ns) (j := j)
  obtain ⟨b1, y1, e1, B1, O1⟩ := b2_ok (x := 0) (md := []) B (by simp)
  obtain ⟨b2, y2, e2, B2, O2⟩ := b2_ok (x := 1) (md := [] ++ [y1]) B1 (by simp)
  refine bindOk e0 (bindOk (show rngM (2 : Int) = some [(0 : Int), 1] from rfl) (bindOk (a := (b2, [] ++ [y1] ++ [y2])) (bindOk e1 (bindOk e2 rfl)) ?_))
  dsimp only
  refine bindOk (rngM_ok (n := 4) (by decide) (by decide)) ?_
  obtain ⟨s, hs, _⟩ := forL_inv (f := m_law_b4 ([] ++ [y1] ++ [y2])) BagOk ((List.range (4 : Int).toNat).map fun (i : Nat) => (i : Int)) b2 B2 (fun x hx s hB => by
    obtain ⟨s2, hs2, B3⟩ := forL_inv (f := m_law_b5 x) BagOk ([] ++ [y1] ++ [y2]) s hB (fun y hy s hB => by
      have : MdOk y := by
        simp at hy
        rcases hy with e | e <;> rw [e] <;> assumption
      exact b5_ok this hB)
    refine ⟨s2, ?_, B3⟩
    unfold m_law_b4
    exact bindOk hs2 rfl)
  exact bindOk hs rfl
theorem law_plain (ns : List Int) (h : ns.length ≤ 63) : m_law ns = some true := by
  unfold m_law
  obtain ⟨n, hn⟩ : ∃ n : Int, (if (if (ns.length : Int) < (2 : Int) then (ns.length : Int) else (2 : Int)) > (1 : Int) then (if (ns.length : Int) < (2 : Int) then (ns.length : Int) else (2 : Int)) else (1 : Int)) = n := ⟨_, rfl⟩
  rw [hn]
  have hn0 : 0 ≤ n ∧ n ≤ 100 := by
    rw [← hn]
    constructor <;> (repeat' split) <;> omega
  refine bindOk (rngM_ok hn0.1 (by omega)) ?_
  obtain ⟨s, hs, _⟩ := forL_inv (f := m_law_b1 ns) (fun _ => True) ((List.range n.toNat).map fun (i : Nat) => (i : Int)) () True.intro (fun x hx s _ => by
    obtain ⟨j, _, rfl⟩ := List.mem_map.mp hx
    exact ⟨(), turn_all, True.intro⟩)
  exact bindOk hs rfl
end Mr

set_option Elab.async false
set_option linter.all false
set_option maxRecDepth 100000
set_option maxHeartbeats 4000000
set_option synthInstance.maxSize 4000
set_option synthInstance.maxHeartbeats 400000
namespace Mr
open PySem PySem.Spec PyProof.Rows L2
def mkDK (n : Str) (i : Nat) (kws : List (Str × He.Dv)) : He5.DefA := ⟨fun K => He.fAd K (n, none), n, n, defArgs (top i), defBody (top i), defScope (top i), [], kws⟩
def mkD (n : Str) (i : Nat) : He5.DefA := ⟨fun K => He.fAd K (n, none), n, n, defArgs (top i), defBody (top i), defScope (top i), [], []⟩
def fn : List He5.DefA := [mkD "each_side" 22, mkD "_law_refused" 50, ⟨fun K => gAd K "Face" "letters", "letters", "Face.letters", defArgs s_Face_letters, defBody s_Face_letters, defScope s_Face_letters, [], []⟩, mkD "is_word" 9, ⟨fun K => He.fAd K ("Face", some "place_of"), "place_of", "Face.place_of", defArgs s_Face_place_of, defBody s_Face_place_of, defScope s_Face_place_of, [], []⟩, ⟨fun K => He.fAd K ("Face", some "told_pair"), "told_pair", "Face.told_pair", defArgs s_Face_told_pair, defBody s_Face_told_pair, defScope s_Face_told_pair, [], []⟩, ⟨fun K => He.fAd K ("Face", some "gap"), "gap", "Face.gap", defArgs s_Face_gap, defBody s_Face_gap, defScope s_Face_gap, [], []⟩, mkD "step_of" 29, ⟨fun K => He.fAd K ("Face", some "ink"), "ink", "Face.ink", defArgs s_Face_ink, defBody s_Face_ink, defScope s_Face_ink, [], []⟩, ⟨fun K => He.fAd K ("Face", some "step"), "step", "Face.step", defArgs s_Face_step, defBody s_Face_step, defScope s_Face_step, [], []⟩, mkD "columns" 10, mkD "width" 11, mkD "stamps" 12, mkD "is_number" 18, mkD "is_corner" 19, mkD "is_ring" 20, mkD "outline_of" 21, mkD "count_of" 23, mkD "winding" 24, mkD "ink_of" 26, mkD "leftmost" 27, mkD "rightmost" 28, mkD "blanks" 30, mkD "bad_count" 34, mkD "row_that_bars" 35, ⟨fun K => He.fAd K ("Face", some "gap_and_bar"), "gap_and_bar", "Face.gap_and_bar", defArgs s_Face_gap_and_bar, defBody s_Face_gap_and_bar, defScope s_Face_gap_and_bar, [], []⟩, ⟨fun K => He.ma K (He.ga K "Face") "__init__", "__init__", "Face.__init__", defArgs s_Face___init__, defBody s_Face___init__, defScope s_Face___init__, [.int 1], []⟩, mkD "_law_bag" 38, mkD "_law_draw" 39, mkD "_law_one" 40, mkD "_law_number" 41, mkD "_law_box" 42, mkD "_law_outlines" 43, mkD "_law_ink" 44, mkD "_law_step" 45, mkD "_law_gap" 46, mkD "_law_table" 47, mkD "_law_columns" 48, mkD "_law_word" 49, mkD "_law_refusals_stand" 51, mkD "_law_wrong_word" 52, mkD "_law_word_stands" 53, mkD "_law_cut_stands" 54, mkD "law" 55, ⟨fun K => He.ma K (He.ga K "BadWord") "__init__", "__init__", "BadWord.__init__", defArgs s_x_BadWord, defBody s_x_BadWord, defScope s_x_BadWord, [], []⟩]
def fa : List He.Fa := [.glo "each_side", .glo "_law_refused", .glo "is_word", .meth "Face" "place_of", .meth "Face" "told_pair", .meth "Face" "gap", .glo "step_of", .meth "Face" "ink", .meth "Face" "step", .glo "columns", .glo "width", .glo "stamps", .glo "is_number", .glo "is_corner", .glo "is_ring", .glo "outline_of", .glo "count_of", .glo "winding", .glo "ink_of", .glo "leftmost", .glo "rightmost", .glo "blanks", .glo "bad_count", .glo "row_that_bars", .meth "Face" "gap_and_bar", .mkr "Face", .glo "_law_bag", .glo "_law_draw", .glo "_law_one", .glo "_law_number", .glo "_law_box", .glo "_law_outlines", .glo "_law_ink", .glo "_law_step", .glo "_law_gap", .glo "_law_table", .glo "_law_columns", .glo "_law_word", .glo "_law_refusals_stand", .glo "_law_wrong_word", .glo "_law_word_stands", .glo "_law_cut_stands", .glo "law", .free "abs", .free "all", .free "bool", .free "enumerate", .free "int", .free "isinstance", .free "len", .free "list", .free "max", .free "min", .free "range", .free "str", .free "tuple", .free "zip", .int "GRID" 4, .int "LEAST_CORNERS" 3, .str "LETTERS" "abcd", .int "MOST_APART" 2, .int "MOST_CORNERS" 8, .int "MOST_LETTERS" 40, .int "MOST_RINGS" 3, .glo "BadWord", .noat "BadWord" "word", .exm "BadWord" "BadWord" true, .cls "Face", .glo "Face", .noat "Face" "apart", .noat "Face" "gaps_and_bars", .noat "Face" "inks", .glo "PressError"]
def fx : List FrT := [(propB "Face" "letters"), (xcB "BadWord"), (fun K => decide (PySem.W.kitOne K (.ref (He.ga K "BadWord")) (.ref (He.ga K "PressError")) = some true)), (ibB "PressError"), (fun K => decide ((tbs K).map (·.1)).Nodup)]
abbrev Rw : PySem.W.OpenRow := PySem.W.OpenLaw.row PySem.Challenge.rw_pressalike_k05_columns_widths_and_stamps
abbrev hk : PySem.W.Hook := hookET 5 fa fn fx tfs
def ob (s : PySem.W.SharedT) : He.AlD × Bool := obsEGT 5 fa fn fx tfs (HandSHeadRun.getT s)
theorem ob_eq (s : PySem.W.SharedT) : ob s = hk.obs s.abs := obsEGT_eq (HandSHeadRun.getT_eq s)
theorem run (w : World) : HandSHeadRun.RunEq Rw (PySem.W.view Rw.prog [55]) hk ob 9000 ((("_wall" : PySem.Str) :: ("PressError" : PySem.Str) :: ("BadOutline" : PySem.Str) :: ("NoInk" : PySem.Str) :: ("BadFace" : PySem.Str) :: ("BadWord" : PySem.Str) :: ("MOST_LETTERS" : PySem.Str) :: ("is_word" : PySem.Str) :: ("columns" : PySem.Str) :: ("width" : PySem.Str) :: ("stamps" : PySem.Str) :: ("GRID" : PySem.Str) :: ("MOST_RINGS" : PySem.Str) :: ("LEAST_CORNERS" : PySem.Str) :: ("MOST_CORNERS" : PySem.Str) :: ("is_number" : PySem.Str) :: ("is_corner" : PySem.Str) :: ("is_ring" : PySem.Str) :: ("outline_of" : PySem.Str) :: ("each_side" : PySem.Str) :: ("count_of" : PySem.Str) :: ("winding" : PySem.Str) :: ("ink_of" : PySem.Str) :: ("leftmost" : PySem.Str) :: ("rightmost" : PySem.Str) :: ("step_of" : PySem.Str) :: ("blanks" : PySem.Str) :: ("LETTERS" : PySem.Str) :: ("MOST_APART" : PySem.Str) :: ("bad_count" : PySem.Str) :: ("row_that_bars" : PySem.Str) :: ("Face" : PySem.Str) :: ("_law_bag" : PySem.Str) :: ("_law_draw" : PySem.Str) :: ("_law_one" : PySem.Str) :: ("_law_number" : PySem.Str) :: ("_law_box" : PySem.Str) :: ("_law_outlines" : PySem.Str) :: ("_law_ink" : PySem.Str) :: ("_law_step" : PySem.Str) :: ("_law_gap" : PySem.Str) :: ("_law_table" : PySem.Str) :: ("_law_columns" : PySem.Str) :: ("_law_word" : PySem.Str) :: ("_law_refused" : PySem.Str) :: ("_law_refusals_stand" : PySem.Str) :: ("_law_wrong_word" : PySem.Str) :: ("_law_word_stands" : PySem.Str) :: ("_law_cut_stands" : PySem.Str) :: [])) w := by
  intro os
  kernel_rfl
theorem facts {P : Program} {w : World} {K : PySem.W.Frag} {h : Heap} {mg : Str → Option Value} {f : Addr} (X : K.In h) (G : h.Ns mainGlobals mg) (hfa : mg ("law" : Str) = some (.ref f)) (c0 : SaysET fa fn fx tfs h K) :
    ∃ fd : FuncData, (∀ (s : Shared) (v : Value), BindsTo s fd ⟨[v], []⟩ [("_law_script", v)]) ∧ ∀ base : Heap, K.In base → base.Ns mainGlobals mg → Tbs K mg base → FnOk P w K mg base CX0 12 f fd ["_law_script"] (sp_law K) := by
  have c := c0.t
  obtain ⟨fd_each_side, F_each_side⟩ := c.def_ 0 rfl
  obtain ⟨fd_law_refused, F_law_refused⟩ := c.def_ 1 rfl
  obtain ⟨fd_Face_letters, F_Face_letters⟩ := c.def_ 2 rfl
  obtain ⟨fd_is_word, F_is_word⟩ := c.def_ 3 rfl
  obtain ⟨fd_Face_place_of, F_Face_place_of⟩ := c.def_ 4 rfl
  obtain ⟨fd_Face_told_pair, F_Face_told_pair⟩ := c.def_ 5 rfl
  obtain ⟨fd_Face_gap, F_Face_gap⟩ := c.def_ 6 rfl
  obtain ⟨fd_step_of, F_step_of⟩ := c.def_ 7 rfl
  obtain ⟨fd_Face_ink, F_Face_ink⟩ := c.def_ 8 rfl
  obtain ⟨fd_Face_step, F_Face_step⟩ := c.def_ 9 rfl
  obtain ⟨fd_columns, F_columns⟩ := c.def_ 10 rfl
  obtain ⟨fd_width, F_width⟩ := c.def_ 11 rfl
  obtain ⟨fd_stamps, F_stamps⟩ := c.def_ 12 rfl
  obtain ⟨fd_is_number, F_is_number⟩ := c.def_ 13 rfl
  obtain ⟨fd_is_corner, F_is_corner⟩ := c.def_ 14 rfl
  obtain ⟨fd_is_ring, F_is_ring⟩ := c.def_ 15 rfl
  obtain ⟨fd_outline_of, F_outline_of⟩ := c.def_ 16 rfl
  obtain ⟨fd_count_of, F_count_of⟩ := c.def_ 17 rfl
  obtain ⟨fd_winding, F_winding⟩ := c.def_ 18 rfl
  obtain ⟨fd_ink_of, F_ink_of⟩ := c.def_ 19 rfl
  obtain ⟨fd_leftmost, F_leftmost⟩ := c.def_ 20 rfl
  obtain ⟨fd_rightmost, F_rightmost⟩ := c.def_ 21 rfl
  obtain ⟨fd_blanks, F_blanks⟩ := c.def_ 22 rfl
  obtain ⟨fd_bad_count, F_bad_count⟩ := c.def_ 23 rfl
  obtain ⟨fd_row_that_bars, F_row_that_bars⟩ := c.def_ 24 rfl
  obtain ⟨fd_Face_gap_and_bar, F_Face_gap_and_bar⟩ := c.def_ 25 rfl
  obtain ⟨fd_Face___init__, F_Face___init__⟩ := c.def_ 26 rfl
  obtain ⟨fd_law_bag, F_law_bag⟩ := c.def_ 27 rfl
  obtain ⟨fd_law_draw, F_law_draw⟩ := c.def_ 28 rfl
  obtain ⟨fd_law_one, F_law_one⟩ := c.def_ 29 rfl
  obtain ⟨fd_law_number, F_law_number⟩ := c.def_ 30 rfl
  obtain ⟨fd_law_box, F_law_box⟩ := c.def_ 31 rfl
  obtain ⟨fd_law_outlines, F_law_outlines⟩ := c.def_ 32 rfl
  obtain ⟨fd_law_ink, F_law_ink⟩ := c.def_ 33 rfl
  obtain ⟨fd_law_step, F_law_step⟩ := c.def_ 34 rfl
  obtain ⟨fd_law_gap, F_law_gap⟩ := c.def_ 35 rfl
  obtain ⟨fd_law_table, F_law_table⟩ := c.def_ 36 rfl
  obtain ⟨fd_law_columns, F_law_columns⟩ := c.def_ 37 rfl
  obtain ⟨fd_law_word, F_law_word⟩ := c.def_ 38 rfl
  obtain ⟨fd_law_refusals_stand, F_law_refusals_stand⟩ := c.def_ 39 rfl
  obtain ⟨fd_law_wrong_word, F_law_wrong_word⟩ := c.def_ 40 rfl
  obtain ⟨fd_law_word_stands, F_law_word_stands⟩ := c.def_ 41 rfl
  obtain ⟨fd_law_cut_stands, F_law_cut_stands⟩ := c.def_ 42 rfl
  obtain ⟨fd_law, F_law⟩ := c.def_ 43 rfl
  obtain ⟨fd_x_BadWord, F_x_BadWord⟩ := c.def_ 44 rfl
  let T : Tx K mg := {
    fd_each_side := fd_each_side
    F_each_side := F_each_side
    g_each_side := He.glo_ok X G (c.fact 0 rfl)
    b_each_side := F_each_side.bindsN fun _ _ _ _ _ _ us hl => (match us, hl with | [_], _ => rfl)
    fd_law_refused := fd_law_refused
    F_law_refused := F_law_refused
    g_law_refused := He.glo_ok X G (c.fact 1 rfl)
    b_law_refused := F_law_refused.bindsN fun _ _ _ _ _ _ us hl => (match us, hl with | [_, _], _ => rfl)
    fd_Face_letters := fd_Face_letters
    F_Face_letters := F_Face_letters
    b_Face_letters := F_Face_letters.bindsN fun _ _ _ _ _ _ us hl => (match us, hl with | [_], _ => rfl)
    p_Face_letters := propB_ok (c.test 0 rfl)
    fd_is_word := fd_is_word
    F_is_word := F_is_word
    g_is_word := He.glo_ok X G (c.fact 2 rfl)
    b_is_word := F_is_word.bindsN fun _ _ _ _ _ _ us hl => (match us, hl with | [_, _], _ => rfl)
    fd_Face_place_of := fd_Face_place_of
    F_Face_place_of := F_Face_place_of
    b_Face_place_of := F_Face_place_of.bindsN fun _ _ _ _ _ _ us hl => (match us, hl with | [_, _], _ => rfl)
    m_Face_place_of := He.meth_ok (c.fact 3 rfl)
    fd_Face_told_pair := fd_Face_told_pair
    F_Face_told_pair := F_Face_told_pair
    b_Face_told_pair := F_Face_told_pair.bindsN fun _ _ _ _ _ _ us hl => (match us, hl with | [_, _, _], _ => rfl)
    m_Face_told_pair := He.meth_ok (c.fact 4 rfl)
    fd_Face_gap := fd_Face_gap
    F_Face_gap := F_Face_gap
    b_Face_gap := F_Face_gap.bindsN fun _ _ _ _ _ _ us hl => (match us, hl with | [_, _, _], _ => rfl)
    m_Face_gap := He.meth_ok (c.fact 5 rfl)
    fd_step_of := fd_step_of
    F_step_of := F_step_of
    g_step_of := He.glo_ok X G (c.fact 6 rfl)
    b_step_of := F_step_of.bindsN fun _ _ _ _ _ _ us hl => (match us, hl with | [_], _ => rfl)
    fd_Face_ink := fd_Face_ink
    F_Face_ink := F_Face_ink
    b_Face_ink := F_Face_ink.bindsN fun _ _ _ _ _ _ us hl => (match us, hl with | [_, _], _ => rfl)
    m_Face_ink := He.meth_ok (c.fact 7 rfl)
    fd_Face_step := fd_Face_step
    F_Face_step := F_Face_step
    b_Face_step := F_Face_step.bindsN fun _ _ _ _ _ _ us hl => (match us, hl with | [_, _], _ => rfl)
    m_Face_step := He.meth_ok (c.fact 8 rfl)
    fd_columns := fd_columns
    F_columns := F_columns
    g_columns := He.glo_ok X G (c.fact 9 rfl)
    b_columns := F_columns.bindsN fun _ _ _ _ _ _ us hl => (match us, hl with | [_, _], _ => rfl)
    fd_width := fd_width
    F_width := F_width
    g_width := He.glo_ok X G (c.fact 10 rfl)
    b_width := F_width.bindsN fun _ _ _ _ _ _ us hl => (match us, hl with | [_, _], _ => rfl)
    fd_stamps := fd_stamps
    F_stamps := F_stamps
    g_stamps := He.glo_ok X G (c.fact 11 rfl)
    b_stamps := F_stamps.bindsN fun _ _ _ _ _ _ us hl => (match us, hl with | [_, _], _ => rfl)
    fd_is_number := fd_is_number
    F_is_number := F_is_number
    g_is_number := He.glo_ok X G (c.fact 12 rfl)
    b_is_number := F_is_number.bindsN fun _ _ _ _ _ _ us hl => (match us, hl with | [_], _ => rfl)
    fd_is_corner := fd_is_corner
    F_is_corner := F_is_corner
    g_is_corner := He.glo_ok X G (c.fact 13 rfl)
    b_is_corner := F_is_corner.bindsN fun _ _ _ _ _ _ us hl => (match us, hl with | [_], _ => rfl)
    fd_is_ring := fd_is_ring
    F_is_ring := F_is_ring
    g_is_ring := He.glo_ok X G (c.fact 14 rfl)
    b_is_ring := F_is_ring.bindsN fun _ _ _ _ _ _ us hl => (match us, hl with | [_], _ => rfl)
    fd_outline_of := fd_outline_of
    F_outline_of := F_outline_of
    g_outline_of := He.glo_ok X G (c.fact 15 rfl)
    b_outline_of := F_outline_of.bindsN fun _ _ _ _ _ _ us hl => (match us, hl with | [_, _], _ => rfl)
    fd_count_of := fd_count_of
    F_count_of := F_count_of
    g_count_of := He.glo_ok X G (c.fact 16 rfl)
    b_count_of := F_count_of.bindsN fun _ _ _ _ _ _ us hl => (match us, hl with | [_, _, _, _], _ => rfl)
    fd_winding := fd_winding
    F_winding := F_winding
    g_winding := He.glo_ok X G (c.fact 17 rfl)
    b_winding := F_winding.bindsN fun _ _ _ _ _ _ us hl => (match us, hl with | [_, _, _], _ => rfl)
    fd_ink_of := fd_ink_of
    F_ink_of := F_ink_of
    g_ink_of := He.glo_ok X G (c.fact 18 rfl)
    b_ink_of := F_ink_of.bindsN fun _ _ _ _ _ _ us hl => (match us, hl with | [_], _ => rfl)
    fd_leftmost := fd_leftmost
    F_leftmost := F_leftmost
    g_leftmost := He.glo_ok X G (c.fact 19 rfl)
    b_leftmost := F_leftmost.bindsN fun _ _ _ _ _ _ us hl => (match us, hl with | [_, _], _ => rfl)
    fd_rightmost := fd_rightmost
    F_rightmost := F_rightmost
    g_rightmost := He.glo_ok X G (c.fact 20 rfl)
    b_rightmost := F_rightmost.bindsN fun _ _ _ _ _ _ us hl => (match us, hl with | [_, _], _ => rfl)
    fd_blanks := fd_blanks
    F_blanks := F_blanks
    g_blanks := He.glo_ok X G (c.fact 21 rfl)
    b_blanks := F_blanks.bindsN fun _ _ _ _ _ _ us hl => (match us, hl with | [_, _, _, _], _ => rfl)
    fd_bad_count := fd_bad_count
    F_bad_count := F_bad_count
    g_bad_count := He.glo_ok X G (c.fact 22 rfl)
    b_bad_count := F_bad_count.bindsN fun _ _ _ _ _ _ us hl => (match us, hl with | [_, _], _ => rfl)
    fd_row_that_bars := fd_row_that_bars
    F_row_that_bars := F_row_that_bars
    g_row_that_bars := He.glo_ok X G (c.fact 23 rfl)
    b_row_that_bars := F_row_that_bars.bindsN fun _ _ _ _ _ _ us hl => (match us, hl with | [_, _, _, _], _ => rfl)
    fd_Face_gap_and_bar := fd_Face_gap_and_bar
    F_Face_gap_and_bar := F_Face_gap_and_bar
    b_Face_gap_and_bar := F_Face_gap_and_bar.bindsN fun _ _ _ _ _ _ us hl => (match us, hl with | [_, _, _], _ => rfl)
    m_Face_gap_and_bar := He.meth_ok (c.fact 24 rfl)
    fd_Face___init__ := fd_Face___init__
    F_Face___init__ := F_Face___init__
    mk_Face := He.mkr_ok (c.fact 25 rfl)
    fd_law_bag := fd_law_bag
    F_law_bag := F_law_bag
    g_law_bag := He.glo_ok X G (c.fact 26 rfl)
    b_law_bag := F_law_bag.bindsN fun _ _ _ _ _ _ us hl => (match us, hl with | [_, _], _ => rfl)
    fd_law_draw := fd_law_draw
    F_law_draw := F_law_draw
    g_law_draw := He.glo_ok X G (c.fact 27 rfl)
    b_law_draw := F_law_draw.bindsN fun _ _ _ _ _ _ us hl => (match us, hl with | [_, _], _ => rfl)
    fd_law_one := fd_law_one
    F_law_one := F_law_one
    g_law_one := He.glo_ok X G (c.fact 28 rfl)
    b_law_one := F_law_one.bindsN fun _ _ _ _ _ _ us hl => (match us, hl with | [_, _], _ => rfl)
    fd_law_number := fd_law_number
    F_law_number := F_law_number
    g_law_number := He.glo_ok X G (c.fact 29 rfl)
    b_law_number := F_law_number.bindsN fun _ _ _ _ _ _ us hl => (match us, hl with | [_], _ => rfl)
    fd_law_box := fd_law_box
    F_law_box := F_law_box
    g_law_box := He.glo_ok X G (c.fact 30 rfl)
    b_law_box := F_law_box.bindsN fun _ _ _ _ _ _ us hl => (match us, hl with | [_, _], _ => rfl)
    fd_law_outlines := fd_law_outlines
    F_law_outlines := F_law_outlines
    g_law_outlines := He.glo_ok X G (c.fact 31 rfl)
    b_law_outlines := F_law_outlines.bindsN fun _ _ _ _ _ _ us hl => (match us, hl with | [_, _, _], _ => rfl)
    fd_law_ink := fd_law_ink
    F_law_ink := F_law_ink
    g_law_ink := He.glo_ok X G (c.fact 32 rfl)
    b_law_ink := F_law_ink.bindsN fun _ _ _ _ _ _ us hl => (match us, hl with | [_], _ => rfl)
    fd_law_step := fd_law_step
    F_law_step := F_law_step
    g_law_step := He.glo_ok X G (c.fact 33 rfl)
    b_law_step := F_law_step.bindsN fun _ _ _ _ _ _ us hl => (match us, hl with | [_], _ => rfl)
    fd_law_gap := fd_law_gap
    F_law_gap := F_law_gap
    g_law_gap := He.glo_ok X G (c.fact 34 rfl)
    b_law_gap := F_law_gap.bindsN fun _ _ _ _ _ _ us hl => (match us, hl with | [_, _, _], _ => rfl)
    fd_law_table := fd_law_table
    F_law_table := F_law_table
    g_law_table := He.glo_ok X G (c.fact 35 rfl)
    b_law_table := F_law_table.bindsN fun _ _ _ _ _ _ us hl => (match us, hl with | [_, _], _ => rfl)
    fd_law_columns := fd_law_columns
    F_law_columns := F_law_columns
    g_law_columns := He.glo_ok X G (c.fact 36 rfl)
    b_law_columns := F_law_columns.bindsN fun _ _ _ _ _ _ us hl => (match us, hl with | [_, _, _], _ => rfl)
    fd_law_word := fd_law_word
    F_law_word := F_law_word
    g_law_word := He.glo_ok X G (c.fact 37 rfl)
    b_law_word := F_law_word.bindsN fun _ _ _ _ _ _ us hl => (match us, hl with | [_, _, _], _ => rfl)
    fd_law_refusals_stand := fd_law_refusals_stand
    F_law_refusals_stand := F_law_refusals_stand
    g_law_refusals_stand := He.glo_ok X G (c.fact 38 rfl)
    b_law_refusals_stand := F_law_refusals_stand.bindsN fun _ _ _ _ _ _ us hl => (match us, hl with | [_, _], _ => rfl)
    fd_law_wrong_word := fd_law_wrong_word
    F_law_wrong_word := F_law_wrong_word
    g_law_wrong_word := He.glo_ok X G (c.fact 39 rfl)
    b_law_wrong_word := F_law_wrong_word.bindsN fun _ _ _ _ _ _ us hl => (match us, hl with | [_, _], _ => rfl)
    fd_law_word_stands := fd_law_word_stands
    F_law_word_stands := F_law_word_stands
    g_law_word_stands := He.glo_ok X G (c.fact 40 rfl)
    b_law_word_stands := F_law_word_stands.bindsN fun _ _ _ _ _ _ us hl => (match us, hl with | [_, _, _, _], _ => rfl)
    fd_law_cut_stands := fd_law_cut_stands
    F_law_cut_stands := F_law_cut_stands
    g_law_cut_stands := He.glo_ok X G (c.fact 41 rfl)
    b_law_cut_stands := F_law_cut_stands.bindsN fun _ _ _ _ _ _ us hl => (match us, hl with | [_, _, _], _ => rfl)
    fd_law := fd_law
    F_law := F_law
    g_law := He.glo_ok X G (c.fact 42 rfl)
    b_law := F_law.bindsN fun _ _ _ _ _ _ us hl => (match us, hl with | [_], _ => rfl)
    z_abs := He.free_ok X G (c.fact 43 rfl)
    z_all := He.free_ok X G (c.fact 44 rfl)
    z_bool := He.free_ok X G (c.fact 45 rfl)
    z_enumerate := He.free_ok X G (c.fact 46 rfl)
    z_int := He.free_ok X G (c.fact 47 rfl)
    z_isinstance := He.free_ok X G (c.fact 48 rfl)
    z_len := He.free_ok X G (c.fact 49 rfl)
    z_list := He.free_ok X G (c.fact 50 rfl)
    z_max := He.free_ok X G (c.fact 51 rfl)
    z_min := He.free_ok X G (c.fact 52 rfl)
    z_range := He.free_ok X G (c.fact 53 rfl)
    z_str := He.free_ok X G (c.fact 54 rfl)
    z_tuple := He.free_ok X G (c.fact 55 rfl)
    z_zip := He.free_ok X G (c.fact 56 rfl)
    c_GRID := He.int_ok X G (c.fact 57 rfl)
    c_LEAST_CORNERS := He.int_ok X G (c.fact 58 rfl)
    c_LETTERS := (by rw [show e_T ([97, 98, 99, 100] : Wrd) = Str.ofString "abcd" from by decide +kernel]; exact He.str_ok X G (c.fact 59 rfl))
    c_MOST_APART := He.int_ok X G (c.fact 60 rfl)
    c_MOST_CORNERS := He.int_ok X G (c.fact 61 rfl)
    c_MOST_LETTERS := He.int_ok X G (c.fact 62 rfl)
    c_MOST_RINGS := He.int_ok X G (c.fact 63 rfl)
    fdx_BadWord := fd_x_BadWord
    Fx_BadWord := F_x_BadWord
    bx_BadWord := F_x_BadWord.bindsN fun _ _ _ _ _ _ us hl => (match us, hl with | [_, _], _ => rfl)
    gx_BadWord := He.glo_ok X G (c.fact 64 rfl)
    x_BadWord := xcB_ok (c.test 1 rfl)
    nx_BadWord_word := He.noat_ok (c.fact 65 rfl)
    kit_BadWord_PressError := of_decide_eq_true (c.test 2 rfl)
    exm_BadWord := He.exm_ok (c.fact 66 rfl)
    cl_Face := He.cls_ok (c.fact 67 rfl)
    gc_Face := He.glo_ok X G (c.fact 68 rfl)
    n_Face_apart := He.noat_ok (c.fact 69 rfl)
    n_Face_gaps_and_bars := He.noat_ok (c.fact 70 rfl)
    n_Face_inks := He.noat_ok (c.fact 71 rfl)
    gx_PressError := He.glo_ok X G (c.fact 72 rfl)
    ib_PressError := ibB_ok (c.test 3 rfl) }
  have e := hfa.symm.trans T.g_law
  cases e
  have b := FunD.bindsA (ps := ["_law_script"]) F_law fun _ _ _ _ _ _ us hl => match us, hl with | [_], _ => rfl
  exact ⟨fd_law, fun s v => b s [v] rfl, fun base _ _ TB => ok_law T TB⟩
end Mr
open PySem PySem.W PySem.Calls PyProof.Rows
theorem PySem.Challenge.cw_pressalike_k05_columns_widths_and_stamps_holds : PySem.Challenge.rw_pressalike_k05_columns_widths_and_stamps.Holds := by
  w_on; o_law
  refine HandSHeadRun.head_any (r := OpenLaw.row PySem.Challenge.rw_pressalike_k05_columns_widths_and_stamps) (q := view (OpenLaw.row PySem.Challenge.rw_pressalike_k05_columns_widths_and_stamps).prog [55]) (H := Mr.hk) (ob := Mr.ob) (M := 9000) (loose := ((("_wall" : PySem.Str) :: ("PressError" : PySem.Str) :: ("BadOutline" : PySem.Str) :: ("NoInk" : PySem.Str) :: ("BadFace" : PySem.Str) :: ("BadWord" : PySem.Str) :: ("MOST_LETTERS" : PySem.Str) :: ("is_word" : PySem.Str) :: ("columns" : PySem.Str) :: ("width" : PySem.Str) :: ("stamps" : PySem.Str) :: ("GRID" : PySem.Str) :: ("MOST_RINGS" : PySem.Str) :: ("LEAST_CORNERS" : PySem.Str) :: ("MOST_CORNERS" : PySem.Str) :: ("is_number" : PySem.Str) :: ("is_corner" : PySem.Str) :: ("is_ring" : PySem.Str) :: ("outline_of" : PySem.Str) :: ("each_side" : PySem.Str) :: ("count_of" : PySem.Str) :: ("winding" : PySem.Str) :: ("ink_of" : PySem.Str) :: ("leftmost" : PySem.Str) :: ("rightmost" : PySem.Str) :: ("step_of" : PySem.Str) :: ("blanks" : PySem.Str) :: ("LETTERS" : PySem.Str) :: ("MOST_APART" : PySem.Str) :: ("bad_count" : PySem.Str) :: ("row_that_bars" : PySem.Str) :: ("Face" : PySem.Str) :: ("_law_bag" : PySem.Str) :: ("_law_draw" : PySem.Str) :: ("_law_one" : PySem.Str) :: ("_law_number" : PySem.Str) :: ("_law_box" : PySem.Str) :: ("_law_outlines" : PySem.Str) :: ("_law_ink" : PySem.Str) :: ("_law_step" : PySem.Str) :: ("_law_gap" : PySem.Str) :: ("_law_table" : PySem.Str) :: ("_law_columns" : PySem.Str) :: ("_law_word" : PySem.Str) :: ("_law_refused" : PySem.Str) :: ("_law_refusals_stand" : PySem.Str) :: ("_law_wrong_word" : PySem.Str) :: ("_law_word_stands" : PySem.Str) :: ("_law_cut_stands" : PySem.Str) :: []))) (d := HandSHeadRun.topDef (OpenLaw.row PySem.Challenge.rw_pressalike_k05_columns_widths_and_stamps).prog 55) (kwd := []) Mr.ob_eq
    (by kernel_rfl) (fun s => by kernel_rfl) Mr.run (by kernel_rfl) (by kernel_rfl) (by kernel_rfl) (by rfl) (by first | assumption | decide +kernel) (by decide +kernel) ⟨rfl, rfl, rfl, rfl, rfl, by decide +kernel⟩ ?hw ?hc
  case hw => w_witness2
  case hc =>
    refine LamX.walk_ofTsE (l := PySem.Challenge.rw_pressalike_k05_columns_widths_and_stamps) (n := 63) (k := 12) (x := "_law_script") (CX := fun _ => L2.CX0) rfl (by decide) (by kernel_rfl) ⟨rfl, by decide, by decide⟩ ?F (fun _ _ _ _ _ z => z)
    intro w mg fa h Y G hmg0
    obtain ⟨K, KX, c⟩ := Y
    have hmg : mg ("law" : PySem.Str) = some (.ref fa) := by
      have e : (HandSHeadRun.topDef (OpenLaw.row PySem.Challenge.rw_pressalike_k05_columns_widths_and_stamps).prog 55).name = ("law" : PySem.Str) := by kernel_rfl
      rw [← e]
      exact hmg0
    obtain ⟨fd, hb, hF⟩ := Mr.facts (P := (PySem.Challenge.rw_pressalike_k05_columns_widths_and_stamps).prog) (w := w) KX G hmg c
    refine ⟨K, KX, fd, Mr.tfs.map (He.cT K), Mr.sp_law K, fun p hp => ?_, fun p hp => ?_, fun p hp => ?_, hb, fun H a ns hl hbits hH hS => ?_, fun base hK hN hTB => hF base hK hN fun p hp => hTB _ (List.mem_map.mpr ⟨p, hp, rfl⟩)⟩
    · obtain ⟨q, hq, rfl⟩ := List.mem_map.mp hp
      exact c.empty q hq
    · obtain ⟨q, hq, rfl⟩ := List.mem_map.mp hp
      exact c.out q hq
    · obtain ⟨q, hq, rfl⟩ := List.mem_map.mp hp
      exact PySem.W.codeHd_of_K KX (c.hd q hq)
    · have hm : ∀ p ∈ Mr.tbs K, ∃ q ∈ Mr.tfs, p.1 = (He.cT K q).2 := by
        intro p hp
        simp only [Mr.tbs, List.mem_cons, List.not_mem_nil, or_false] at hp
        simp only [Mr.tfs, List.mem_cons, List.not_mem_nil, or_false]
        rcases hp with rfl <;> exact ⟨_, by simp, rfl⟩
      obtain ⟨G1, S, hG⟩ := Mr.lam_start (T := Mr.tbs K) hS (fun p hp => by
        obtain ⟨q, hq, e⟩ := hm p hp
        rw [e]; exact hH _ (List.mem_map.mpr ⟨q, hq, rfl⟩)) (fun p hp => by
        obtain ⟨q, hq, e⟩ := hm p hp
        rw [e]; exact c.out q hq) (of_decide_eq_true (Mr.SaysE.test c.t 4 rfl))
      exact ⟨G1, [], .ref a, ns, _, rfl, S, ⟨a, _, rfl, hG, Mr.Al.ofSc⟩, Mr.TbR.start, Mr.NoC.nil, true, Mr.law_plain ns hl, fun _ _ _ _ _ _ => rfl⟩
