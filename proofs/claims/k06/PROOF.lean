import PyProof.Rows.All
import HandS.Property
import HandS.HeadNt
import Wide.All
import OpenK.AllK
import Wide.FinOn
import HandS.ForMost
import KE.GoesEnum
import HandS.ForExc
import HandS.Wide
import HandS.IsInst
import HandS.Style
import HandS.Walk
import HandS.Conv
import HandS.Flow
import HandS.Defaults
import HandS.Star
import HandS.Deep
import PyProof.GenQ
import HandS.GenOver
import HandS.GenYield
import HandS.GenCall
import HandS.GenList
import PySem.PyData
import HandS.StrMore
import KE.GoesZip
import KE.GoesMore
import HandS.Replace
import KE.SortData
import HandS.SortRule
import HandS.TryOnly
import HandS.FStrTup
import HandS.FStr
import PyProof.ReprNest
import PyProof.P3Statements
import HandS.ExcInit
import HandS.ExcIs
import HandS.ExcField
import PyProof.StrHeap
import PyProof.FString4
import PyProof.ListStr
import PyProof.StrOps2
import HandS.More
import HandS.Dict
import HandS.SetBool
import PyProof.DictRoadsH
import PyProof.DictMoreH
import PyProof.P3Eq
import PyProof.Transfer
import HandS.Lambda
import HandS.HeadHook4
import HandS.EndTab
import HandS.HeadWalk
import KE.KDictPairs
import KE.DataCmp
import HandS.IterVal
import HandS.ExcValue
import HandS.Head0
import HandS.Head1
import HandS.Head2
import HandS.HeadEnd
import HandS.HeadHook1
import HandS.HeadHook2
import PySem.Challenge.RW_pressalike_k06_words_in_their_order
set_option Elab.async false
set_option linter.all false
set_option maxRecDepth 100000
set_option maxHeartbeats 2000000
/-! MirH: the head's facts: defs at any address, and any test of the written part. -/
namespace Mr
open PySem PySem.Spec PyProof.Rows L2
abbrev FrT := PySem.W.Frag → Bool
def obsE (fa : List He.Fa) (fn : List He5.DefA) (ex : List FrT) (K : PySem.W.Frag) : He.AlD := (((fa.all fun f => f.ok K) && fn.all fun d => d.ok K) && ex.all fun f => f K, fn.map fun d => He5.fnA K (d.at_ K))
def valE (fn : List He5.DefA) : He.AlD := (true, fn.map He5.DefA.val)
def SaysE (fa : List He.Fa) (fn : List He5.DefA) (ex : List FrT) (K : PySem.W.Frag) : Prop := obsE fa fn ex K = valE fn
def obsEG (n : Nat) (fa : List He.Fa) (fn : List He5.DefA) (ex : List FrT) (g : Addr → Option Obj) : He.AlD := obsE fa fn ex (He.frG g (He.asD g n))
def hookE (n : Nat) (fa : List He.Fa) (fn : List He5.DefA) (ex : List FrT) : PySem.W.Hook where
  α := He.AlD
  obs := fun s => obsEG n fa fn ex s.heap.get?
  val := fun _ => valE fn
  says := fun _ h => ∃ K : PySem.W.Frag, K.In h ∧ SaysE fa fn ex K
  of := fun _ _ e => ⟨_, He.frG_in, e⟩
  keeps := fun _ _ _ ⟨K, hK, c⟩ k => ⟨K, PySem.W.Frag.In.keeps hK k, c⟩
theorem obsEG_eq {n : Nat} {fa : List He.Fa} {fn : List He5.DefA} {ex : List FrT} {g : Addr → Option Obj} {s : Shared} (h : ∀ a, g a = s.heap.get? a) : obsEG n fa fn ex g = (hookE n fa fn ex).obs s := by
  have e : g = s.heap.get? := funext h
  rw [e] <;> rfl
section
variable {fa : List He.Fa} {fn : List He5.DefA} {ex : List FrT} {K : PySem.W.Frag}
theorem SaysE.all (c : SaysE fa fn ex K) : ((fa.all fun f => f.ok K) = true ∧ (fn.all fun d => d.ok K) = true) ∧ (ex.all fun f => f K) = true := by
  have h := He.ba (show (((fa.all fun f => f.ok K) && fn.all fun d => d.ok K) && ex.all fun f => f K) = true from congrArg (fun z : He.AlD => z.1) c)
  exact ⟨He.ba h.1, h.2⟩
theorem SaysE.fact (c : SaysE fa fn ex K) (i : Nat) {f : He.Fa} (h : fa[i]? = some f := by rfl) : f.ok K = true := List.all_eq_true.mp c.all.1.1 f (List.mem_of_getElem? h)
theorem SaysE.test (c : SaysE fa fn ex K) (i : Nat) {f : FrT} (h : ex[i]? = some f := by rfl) : f K = true := List.all_eq_true.mp c.all.2 f (List.mem_of_getElem? h)
theorem SaysE.def_ (c : SaysE fa fn ex K) (i : Nat) {d : He5.DefA} (h : fn[i]? = some d := by rfl) : ∃ fd, L2.FunD K d.name d.qual d.params d.body d.scope (d.dvs K) (d.kws K) (d.at_ K) fd := by
  have e : fn.map (fun d => He5.fnA K (d.at_ K)) = fn.map He5.DefA.val := congrArg (fun z : He.AlD => z.2) c
  have e2 : (fn.map fun d => He5.fnA K (d.at_ K))[i]? = (fn.map He5.DefA.val)[i]? := by rw [e]
  rw [List.getElem?_map, List.getElem?_map, h] at e2
  exact He5.DefA.funD (Option.some.inj e2) (List.all_eq_true.mp c.all.1.2 d (List.mem_of_getElem? h))
end
/-! ### properties -/
abbrev pAd (K : PySem.W.Frag) (C f : Str) : Addr := He.ma K (He.ga K C) f
abbrev gAd (K : PySem.W.Frag) (C f : Str) : Addr := He5.wf K (He.ga K C) "property" f
def propB (C f : Str) : FrT := fun K => He.eqO (PySem.W.findIn K (.ref (He.ga K C)) f) (some (some (.ref (pAd K C f)))) && (He.eqO (PySem.W.specialIn K (.ref (pAd K C f)) "__get__") (some (some (.builtin "property.__get__"))) &&
  (decide (PySem.W.takesIn K (.ref (pAd K C f)) = some true) && (match PySem.W.recIn K (pAd K C f) "property" with
    | some (.ref _ :: _) => true
    | _ => false)))
theorem propB_ok {C f : Str} {K : PySem.W.Frag} (h : propB C f K = true) : PropOf K (He.ga K C) f (pAd K C f) (gAd K C f) := by
  obtain ⟨h1, h⟩ := He.ba h
  obtain ⟨h2, h⟩ := He.ba h
  obtain ⟨h3, h4⟩ := He.ba h
  refine ⟨He.eqO_ok h1, He.eqO_ok h2, of_decide_eq_true h3, ?_⟩
  show ∃ rest, PySem.W.recIn K (pAd K C f) "property" = some (.ref (He5.wf K (He.ga K C) "property" f) :: rest)
  unfold He5.wf
  split at h4
  · rename_i g r e
    exact ⟨r, by rw [e]⟩
  · cases h4
/-! ### len by an own __len__ -/
def spcB (C m : Str) : FrT := fun K => He.eqO (PySem.W.findIn K (.ref (He.ga K C)) m) (some (some (.ref (He.ma K (He.ga K C) m)))) && PySem.W.isFn K (.ref (He.ma K (He.ga K C) m))
structure Spc (K : PySem.W.Frag) (C : Addr) (m : Str) (f : Addr) : Prop where
  at_ : PySem.W.findIn K (.ref C) m = some (some (.ref f))
  fn : PySem.W.isFn K (.ref f) = true
theorem spcB_ok {C m : Str} {K : PySem.W.Frag} (h : spcB C m K = true) : Spc K (He.ga K C) m (He.ma K (He.ga K C) m) := by
  obtain ⟨h1, h2⟩ := He.ba h
  exact ⟨He.eqO_ok h1, h2⟩
def lenQ (Q : VK) : VK := fun v H' => ∃ n : Nat, v = .int n ∧ n < 2 ^ 62 ∧ Q (.int n) H'
def rLenOwn (C : Addr) (sp : Sp) (E : XK) : List V → Hp → VK → Prop := fun xs H Q => ∃ a dx fs, xs = [.ref a] ∧ H a = some (.ins C dx fs) ∧ sp [.ref a] H (lenQ Q) E
theorem cr_lenOwn {X : Cx} {CX : CXT} {k : Nat} {C f : Addr} {fd : FuncData} {ps : List Str} {sp : Sp} {E : XK} (F : FnOk X.prog X.w X.K X.mg X.base CX k f fd ps sp) (hs : Spc X.K C "__len__" f) (hr : Room (k + 1) X.A) (hb : Binds X.K fd ps []) (hx : Passes CX X.nox E) :
    CallR X (.builtin "len") (rLenOwn C sp E) := by
  intro pins s σ H xs us Q I r h
  obtain ⟨a, dx, fs, rfl, ea, h⟩ := h
  obtain ⟨u, rfl, rx⟩ := vals1 r
  obtain rfl : u = Value.ref a := rx
  obtain ⟨mA, O, _, _, _, _⟩ := ins_get I.hok ea
  obtain ⟨od, J, _⟩ := O.look
  have hl : ([Value.ref a] ++ ([] : List Value)).length = ps.length := by
    rw [← F.len _ _ _ _ h]; rfl
  refine PySem.Calls.call_function_entry kind_len plain_len entry_len (args_len1 _) ?_
  unfold Builtin.«len»
  refine wpAny_bind (m := oneArg "len" _) (wpAny_pure ?_)
  refine wpAny_bind (m := callSpecial? (.ref a) (Str.ofString "__len__")) (PySem.W.special_fn I.kIn J hs.at_ (beq_iff_eq.mp hs.fn) ?_)
  refine wpAny_call (codeAny_mono (F.run X.A.in1 X.stack s H ⟨[.ref a], []⟩ [.ref a] [.ref a] _ E hr.in1 I.env0.in1 (hb s [.ref a] I.kIn hl) (.cons rfl .nil) h) fun r s' hq => ?_)
  cases r with
  | error er => exact False.elim (hx pins σ H s er s' (I.wish _) hq)
  | ok fl =>
    cases fl with
    | ret u =>
      obtain ⟨v, H', I3, rv, n, rfl, hn, q3⟩ := I.after hq
      obtain ⟨t, rfl⟩ := rv
      refine wpAny_bind (wpAny_holding (wpAny_pure ?_))
      refine wpAny_bind (wpAny_letGo ?_)
      show wpAny _ _ (if (n : Int) < 0 then _ else _) _ _ _
      rw [if_neg (by omega)]
      show wpAny _ _ (if (n : Int) ≥ 2 ^ 63 then _ else _) _ _ _
      rw [if_neg (by omega)]
      exact wpAny_bind (wpAny_mkInt (wpAny_pure ⟨_, rfl, ⟨.int n, H', I3.tok _, ⟨_, rfl⟩, q3⟩⟩))
    | next => exact False.elim hq
    | brk => exact False.elim hq
    | cont => exact False.elim hq
end Mr

set_option Elab.async false
set_option linter.all false
set_option maxRecDepth 100000
set_option maxHeartbeats 2000000
/-! MirE: enumerate of a tuple, of a list or a tuple. -/
namespace Mr
open PySem PySem.Spec PyProof.Rows L2
theorem meets_enum1 {v : Value} {o : Obj} {H : Heap → Prop} (B : Begins v o H) :
    Meets (Builtin.«enumerate.__new__» ⟨[.type "enumerate", v], []⟩) (fun _ R s => H s.heap ∧
      R (.ok (.ret (.ref (s.heap.push o).objs.size))) { s with heap := (s.heap.push o).push { cls := .type "enumerate", data := .fields #[.none, .bool false, .ref s.heap.objs.size, rawInt 0, .none, .none] } }) :=
  .of_wp fun prog w A R s h => by
    obtain ⟨hp, g, d, tk, os⟩ := s; obtain ⟨h1, h⟩ := h
    have hsub := sub_enumerate
    have q1 : ∀ {A' : Around} {E : Value → Shared → Prop} {Q : Value → Shared → Prop}, Q (.ref hp.objs.size) ⟨hp.push o, g, d, tk, os⟩ → wpAny (model prog w) A' (pyIter v) Q E ⟨hp, g, d, tk, os⟩ :=
      fun q => B.iter prog w _ _ ⟨hp, g, d, tk, os⟩ _ h1 q
    wp_walk using q1
    refine wpAny_stack_any fun st => wpAny_pure ?_
    split
    · rename_i c _ _ _ _ _
      cases (c == Value.type "enumerate")
      · wp_walk using q1
        exact ⟨_, rfl, h⟩
      · wp_walk using q1
        exact ⟨_, rfl, h⟩
    · wp_walk using q1
      exact ⟨_, rfl, h⟩
theorem call_enum1 {prog : Program} {w : World} {A : Around} {E : Value → Shared → Prop} {s : Shared} {v : Value} {o : Obj} {H : Heap → Prop} {Q : Value → Shared → Prop} (B : Begins v o H) (h1 : H s.heap)
    (h : ∀ h', IsEnum h' (s.heap.objs.size + 1) s.heap.objs.size 0 .none → h'.get? s.heap.objs.size = some o → h'.objs.size = s.heap.objs.size + 2 →
      (∀ b o, s.heap.get? b = some o → h'.get? b = some o) → Q (.ref (s.heap.objs.size + 1)) { s with heap := h' }) :
    wpAny (model prog w) A (call (.type "enumerate") [v]) Q E s := by
  refine callType_new F.called_enumerate (by decide) (F.typeCall_enumerate_1 _) (F.newCall_enumerate_1 _) (fun obj => F.args_object_init_2 obj _) F.entry_enumerate_new
    (meets_enum1 B) ⟨h1, ?_⟩
  have hz : (s.heap.push o).objs.size = s.heap.objs.size + 1 := Heap.size_push ..
  show _ ∧ _
  rw [hz]
  have he : IsEnum ((s.heap.push o).push { cls := .type "enumerate", data := .fields #[.none, .bool false, .ref s.heap.objs.size, rawInt 0, .none, .none] }) (s.heap.objs.size + 1) s.heap.objs.size 0 .none := by
    have := Heap.get?_push_size (s.heap.push o) (o := { cls := .type "enumerate", data := .fields #[.none, .bool false, .ref s.heap.objs.size, rawInt 0, .none, .none] }) rfl
    rw [hz] at this; exact this
  refine ⟨⟨_, he, rfl⟩, h _ he (Heap.get?_push_of_some _ (Heap.get?_push_size _ B.free)) (by rw [Heap.size_push, hz]) fun b o x => Heap.get?_push_of_some _ (Heap.get?_push_of_some _ x)⟩
/-- the tuple at a, each item in a new pair -/
def IteT (K : PySem.W.Frag) (a : Addr) : It :=
  ⟨fun i H => ∃ (xs : List V) (x : V), SqT K H a xs ∧ xs[i]? = some x, fun i H v H' => ∃ T x, v = .ref T ∧ H T = none ∧ H' = upd H T (.tup [.int (i : Nat), x]) ∧ ∀ xs, SqT K H a xs → xs[i]? = some x, fun i H => ∃ xs : List V, SqT K H a xs ∧ xs.length = i⟩
theorem turn_enumT {P : Program} {w : World} {K : PySem.W.Frag} {elts : List Expr} {kk : Nat} {tpos : Pos} (a e it : Addr) :
    Turn P w K (.Tuple elts kk tpos) (IteT K a) [e, it] e (fun i h => (∃ old, IsEnum h e it ((i : Nat) : Int) old) ∧ h.IsTupleIter it a i ∧ e ≠ it ∧ a ≠ it ∧ a ≠ e) where
  mem := by simp
  obj := fun i h st b hb => by
    obtain ⟨⟨old, he⟩, ⟨o, ho, hc, hd⟩, _⟩ := st
    have e' : b = e ∨ b = it := by simpa using hb
    rcases e' with z | z
    · rw [z]; exact ⟨_, he, fun v q => nomatch q⟩
    · rw [z]; exact ⟨o, ho, fun v q => by rw [hd] at q; cases q⟩
  keep := fun i h h' st k => let ⟨⟨old, he⟩, hi, hne⟩ := st; ⟨⟨old, k e (by simp) _ he⟩, hi.at fun o q => k it (by simp) o q, hne⟩
  item := by
    intro X hP hw hK hc i pins s σ H E I hf st hg
    subst hP hw hK
    obtain ⟨⟨old, he⟩, hit, hne, hai, hae⟩ := st
    obtain ⟨xs, x, hq, hx⟩ := hg
    obtain ⟨its, rv, p, hz⟩ := I.tuple hq
    have hi : i < its.length := by rw [← rv.length]; exact (List.getElem?_eq_some_iff.mp hx).1
    have hel : e < s.heap.objs.size := Heap.lt_size he
    have hil : it < s.heap.objs.size := by obtain ⟨_, q, _⟩ := hit; exact Heap.lt_size q
    have D : Draws X.prog X.w X.A.in1 it [it, a] its.toArray.size (fun i v => its.toArray[i]? = some v) (fun i h => h.IsTupleIter it a i ∧ h.IsTuple a its.toArray) := Draws.tuple (A := X.A.in1) (show X.A.in1.handled = none from I.ok.hd hc) it a hai its.toArray
    refine wpAny_pyNext_enum_itemC D he ⟨hit, p⟩ (by simpa using hi) hne (fun hm => ?_) fun u h' tk hu ho hst' hT hsz hk => ?_
    · rcases List.mem_cons.mp hm with z | hm
      · exact hne z
      · rcases List.mem_cons.mp hm with z | hm
        · exact hae z.symm
        · cases hm
    obtain ⟨u', hu', ru⟩ := rv.get hx
    have hu2 : its[i]? = some u := by simpa using hu
    rw [hu2] at hu'
    cases hu'
    refine ⟨_, rfl, wpAny_letOwnedTupleGo_enum (s := { s with heap := h', toks := tk + 1 }) ho fun h'' he' sb => ?_⟩
    have hT2 : h''.get? s.heap.objs.size = some { cls := .type "tuple", data := .seq #[.int i tk, u] } := (sb.2 _ (Nat.ne_of_gt hel)).trans hT
    have new : ObjOk X.prog X.w (upd H s.heap.objs.size (.tup [.int (i : Nat), x])) h'' s.heap.objs.size (.tup [.int (i : Nat), x]) :=
      ⟨by show 2 ≤ sizeLine; decide, [.int i tk, u], .cons ⟨_, rfl⟩ (.cons ru .nil), ⟨_, hT2, rfl, _, rfl⟩⟩
    have I1 : Inv X pins σ (upd H s.heap.objs.size (.tup [.int (i : Nat), x])) { s with heap := h'', toks := tk + 1 } :=
      I.turnedNew (ch := [e, it]) (fun b ob hb q => (sb.2 b (fun z => hb (by simp [z]))).trans (hk b ob (fun z => hb (by simp [z])) (fun z => hb (by simp [z])) q)) hf (Nat.le_refl _) new
    refine ⟨.ref s.heap.objs.size, _, I1, rfl, ⟨_, x, rfl, I.hok.fresh (Nat.le_refl _), rfl, fun ys hy => by rw [I.tuple_inj hy hq]; exact hx⟩, ⟨⟨u, ?_⟩, hst'.1.at fun o q => (sb.2 it (Ne.symm hne)).trans q, hne, hai, hae⟩, fun b hb => ?_⟩
    · have e1 : ((i + 1 : Nat) : Int) = (i : Int) + 1 := by omega
      rw [e1]; exact he'
    · have hb' : b < s.heap.objs.size := by
        have e' : b = e ∨ b = it := by simpa using hb
        rcases e' with z | z
        · rw [z]; exact hel
        · rw [z]; exact hil
      rw [upd_ne (Nat.ne_of_lt hb')]
      exact (hf b hb).1
  done := by
    intro X hP hw hK hc i pins s σ H E I hf st hg
    subst hP hw hK
    obtain ⟨⟨old, he⟩, hit, hne, hai, hae⟩ := st
    obtain ⟨xs, hq, hx⟩ := hg
    obtain ⟨its, rv, p, hz⟩ := I.tuple hq
    obtain ⟨f0, f1, f2, f3, f4, f5⟩ := hf it (by simp)
    have hl := rv.length
    have D : Draws X.prog X.w X.A.in1 it [it, a] its.toArray.size (fun i v => its.toArray[i]? = some v) (fun i h => h.IsTupleIter it a i ∧ h.IsTuple a its.toArray) := Draws.tuple (A := X.A.in1) (show X.A.in1.handled = none from I.ok.hd hc) it a hai its.toArray
    have e0 : its.toArray.size = i := by simp; omega
    refine wpAny_pyNext_enum_endD D he (by rw [e0]; exact ⟨hit, p⟩) fun h' eb => ⟨rfl, I.turned (t' := s.toks) (fun b o hb q => eb b o hb q) f0 f1 f3 f4 f5⟩
  self := fun A i s Q E st h => let ⟨⟨_, he⟩, _⟩ := st; wpAny_pyIter_enum he h
def iEnumQ (K : PySem.W.Frag) (ta : TA) : TI := fun σ H R => ta σ H fun vs H1 => ∃ a xs, vs = [.ref a] ∧ ((SqL K H1 a xs ∧ R (Ite K a) H1) ∨ (SqT K H1 a xs ∧ R (IteT K a) H1))
theorem pi_enumQ {X : Cx} {e : Expr} {ta : TA} {p pos tpos : Pos} {elts : List Expr} {kk : Nat} (hg : Gl X "enumerate") (hm : X.mg "enumerate" = none) (ha : PA X [e] ta) (hs : starEach [e] X.env = [(false, eval e X.env)] := by rfl) :
    PI X (.Tuple elts kk tpos) (.Call (.Name "enumerate" p) [e] [] pos) (iEnumQ X.K ta) := by
  refine ⟨fun pins s σ H R I h => ?_⟩
  refine Call_ (ld_blt I hg hm boot_enumerate (PyProof.Rows.callWith_type1 (thn (ha.run pos pins s σ H _ I h) fun us s1 ⟨vs, H1, I1, r1, q1⟩ => ?_) hs rfl))
  obtain ⟨a, xs, ex, hqq⟩ := q1
  subst ex
  cases r1 with
  | cons r rr =>
    cases rr
    cases r
    have fin : ∀ b, b ∈ [s1.heap.objs.size + 1, s1.heap.objs.size] → s1.heap.objs.size ≤ b := fun b hb => by
      have e' : b = s1.heap.objs.size + 1 ∨ b = s1.heap.objs.size := by simpa using hb
      rcases e' with z | z
      · rw [z]; exact Nat.le_add_right _ _
      · rw [z]; exact Nat.le_refl _
    rcases hqq with ⟨hq, q⟩ | ⟨hq, q⟩
    · obtain ⟨its, rv, p', hz⟩ := I1.list hq
      refine call_enumerate_list p'.isList fun h' he hit hsz hk => wpAny_pyIter_enum he ?_
      have I2 : Inv X pins σ H1 { s1 with heap := h' } := I1.kept (t' := s1.toks) hk
      exact ⟨s1.heap.objs.size + 1, [s1.heap.objs.size + 1, s1.heap.objs.size], _, _, H1, rfl, I2, turn_enum a (s1.heap.objs.size + 1) s1.heap.objs.size, ⟨⟨.none, he⟩, hit, Nat.succ_ne_self _⟩, fun b hb => I1.fpOk (fin b hb) (I1.hok.fresh (fin b hb)), q⟩
    · obtain ⟨its, rv, p', hz⟩ := I1.tuple hq
      have hlt : a < s1.heap.objs.size := by obtain ⟨_, q, _⟩ := id p'; exact Heap.lt_size q
      refine call_enum1 (begins_tuple a its.toArray) p' fun h' he hit hsz hk => wpAny_pyIter_enum he ?_
      have I2 : Inv X pins σ H1 { s1 with heap := h' } := I1.kept (t' := s1.toks) hk
      exact ⟨s1.heap.objs.size + 1, [s1.heap.objs.size + 1, s1.heap.objs.size], _, _, H1, rfl, I2, turn_enumT a (s1.heap.objs.size + 1) s1.heap.objs.size,
        ⟨⟨.none, he⟩, ⟨_, hit, rfl, rfl⟩, Nat.succ_ne_self _, Nat.ne_of_lt hlt, Nat.ne_of_lt (Nat.lt_succ_of_lt hlt)⟩, fun b hb => I1.fpOk (fin b hb) (I1.hok.fresh (fin b hb)), q⟩
end Mr

set_option linter.all false
set_option maxRecDepth 100000
/-! MirP: the plain part of the mirrors: Option computations (none: the model's rules do not cover it), folds, loops. -/
namespace Mr
theorem bindS {α β : Type} {o : Option α} {f : α → Option β} {r : β} (h : o.bind f = some r) : ∃ a, o = some a ∧ f a = some r := by
  cases o with
  | none => cases h
  | some a => exact ⟨a, rfl, h⟩
def fdivM (a b : Int) : Option Int := if 0 < b ∧ b.natAbs.log2 < 9000 then some (a / b) else none
def modM (a b : Int) : Option Int := if 0 < b then some (a % b) else none
def mulM (a b : Int) : Option Int := if (-(2 ^ 64) < a ∧ a < 2 ^ 64) ∨ (-(2 ^ 64) < b ∧ b < 2 ^ 64) then some (a * b) else none
def ixM (n : Nat) (i : Int) : Option Nat := if 0 ≤ i then (if i < n then some i.toNat else none) else if -(n : Int) ≤ i then some (i + n).toNat else none
def getM {α : Type} (xs : List α) (i : Int) : Option α := (ixM xs.length i).bind fun j => xs[j]?
def setM {α : Type} (xs : List α) (i : Int) (x : α) : Option (List α) := (ixM xs.length i).bind fun j => some (xs.set j x)
def appM {α : Type} (xs : List α) (x : α) : Option (List α) := if xs.length < 100000 then some (xs ++ [x]) else none
def rngM (n : Int) : Option (List Int) := if -(2 ^ 62) ≤ n ∧ n < 2 ^ 62 then some ((List.range n.toNat).map fun (i : Nat) => (i : Int)) else none
def rng2M (a b : Int) : Option (List Int) := if -(2 ^ 62) ≤ a ∧ a < 2 ^ 62 ∧ -(2 ^ 62) ≤ b ∧ b < 2 ^ 62 then some ((List.range (b - a).toNat).map fun (i : Nat) => a + (i : Int)) else none
def enumF {α : Type} : Nat → List α → List (Int × α)
  | _, [] => []
  | k, x :: xs => ((k : Int), x) :: enumF (k + 1) xs
def enumM {α : Type} (xs : List α) : List (Int × α) := enumF 0 xs
def slIx (n d : Nat) : Option Int → Nat
  | none => d
  | some v => if v < 0 then (v + (n : Int)).toNat else min v.toNat n
def cutM {α : Type} (xs : List α) (lo hi : Option Int) : List α := (xs.drop (slIx xs.length 0 lo)).take (slIx xs.length xs.length hi - slIx xs.length 0 lo)
def catM {α : Type} (xs ys : List α) : Option (List α) := if xs.length + ys.length ≤ 100000 then some (xs ++ ys) else none
theorem catM_some {α : Type} {xs ys zs : List α} (h : catM xs ys = some zs) : xs.length + ys.length ≤ 100000 ∧ xs ++ ys = zs := by
  unfold catM at h
  split at h
  · rename_i c; exact ⟨c, Option.some.inj h⟩
  · cases h
def szM {α : Type} (xs : List α) : Option (List α) := if xs.length ≤ 100000 then some xs else none
theorem szM_some {α : Type} {xs ys : List α} (h : szM xs = some ys) : xs.length ≤ 100000 ∧ xs = ys := by
  unfold szM at h
  split at h
  · rename_i c; exact ⟨c, Option.some.inj h⟩
  · cases h
/-- a loop that is never left -/
def folM {α σ : Type} (f : σ → α → Option σ) : List α → σ → Option σ
  | [], s => some s
  | x :: xs, s => (f s x).bind fun s' => folM f xs s'
/-- a turn's end, a loop's end -/
inductive Bf (σ ρ : Type) where
  | go (s : σ) | bk (s : σ) | rt (r : ρ)
inductive Fl (σ ρ : Type) where
  | nx (s : σ) | rt (r : ρ)
def forL {α σ ρ : Type} (f : σ → α → Option (Bf σ ρ)) : List α → σ → Option (Fl σ ρ)
  | [], s => some (.nx s)
  | x :: xs, s => (f s x).bind fun b => match b with
    | .go s' => forL f xs s'
    | .bk s' => some (.nx s')
    | .rt r => some (.rt r)
def conL {α σ ρ : Type} (f : σ → α → Option (Bf σ ρ)) (xs : List α) : Bf σ ρ → Option (Fl σ ρ)
  | .go s' => forL f xs s'
  | .bk s' => some (.nx s')
  | .rt r => some (.rt r)
theorem forL_cons {α σ ρ : Type} {f : σ → α → Option (Bf σ ρ)} {x : α} {xs : List α} {s : σ} : forL f (x :: xs) s = (f s x).bind (conL f xs) := by
  show (f s x).bind _ = _
  congr 1
/-- [e for x in xs if t]: none of a turn: left out -/
def mapM' {α β : Type} (f : α → Option β) : List α → Option (List β)
  | [] => some []
  | x :: xs => (f x).bind fun y => (mapM' f xs).bind fun ys => some (y :: ys)
def selM {α β : Type} (f : α → Option (Option β)) : List α → Option (List β)
  | [] => some []
  | x :: xs => (f x).bind fun y => (selM f xs).bind fun ys => some (match y with
    | some z => z :: ys
    | none => ys)
/-- while: n turns at most -/
def whlM {σ : Type} (c : σ → Option Bool) (f : σ → Option σ) : Nat → σ → Option σ
  | 0, _ => none
  | n + 1, s => (c s).bind fun b => if b then (f s).bind fun s' => whlM c f n s' else some s
/-- while: test and body as one turn; N turns at most -/
def whL {σ ρ : Type} (f : σ → Option (Bf σ ρ)) : Nat → σ → Option (Fl σ ρ)
  | 0, _ => none
  | n + 1, s => (f s).bind fun b => match b with
    | .go s' => whL f n s'
    | .bk s' => some (.nx s')
    | .rt r => some (.rt r)
def conW {σ ρ : Type} (f : σ → Option (Bf σ ρ)) (n : Nat) : Bf σ ρ → Option (Fl σ ρ)
  | .go s' => whL f n s'
  | .bk s' => some (.nx s')
  | .rt r => some (.rt r)
theorem whL_succ {σ ρ : Type} {f : σ → Option (Bf σ ρ)} {n : Nat} {s : σ} : whL f (n + 1) s = (f s).bind (conW f n) := by
  show (f s).bind _ = _
  congr 1
def goF {α σ : Type} (ρ : Type) (f : σ → α → Option σ) : σ → α → Option (Bf σ ρ) := fun s x => (f s x).bind fun s' => some (.go s')
theorem goF_some {α σ ρ : Type} {f : σ → α → Option σ} {s : σ} {x : α} {b : Bf σ ρ} (h : goF ρ f s x = some b) : ∃ s', f s x = some s' ∧ Bf.go s' = b := by
  obtain ⟨s', h1, h2⟩ := bindS h
  exact ⟨s', h1, Option.some.inj h2⟩
theorem fol_for {α σ : Type} (ρ : Type) {f : σ → α → Option σ} : ∀ {xs : List α} {s r : σ}, folM f xs s = some r → forL (goF ρ f) xs s = some (.nx r)
  | [], s, r, h => by cases h; rfl
  | x :: xs, s, r, h => by
    obtain ⟨s', h1, h2⟩ := bindS h
    rw [forL_cons]
    show ((f s x).bind fun s' => some (Bf.go s')).bind _ = _
    rw [h1]
    exact fol_for ρ h2
theorem mulM_some {a b x : Int} (h : mulM a b = some x) : ((-(2 ^ 64) < a ∧ a < 2 ^ 64) ∨ (-(2 ^ 64) < b ∧ b < 2 ^ 64)) ∧ a * b = x := by
  unfold mulM at h
  split at h
  · rename_i c; exact ⟨c, Option.some.inj h⟩
  · cases h
theorem fdivM_some {a b x : Int} (h : fdivM a b = some x) : (0 < b ∧ b.natAbs.log2 < 9000) ∧ a / b = x := by
  unfold fdivM at h
  split at h
  · rename_i c; exact ⟨c, Option.some.inj h⟩
  · cases h
theorem modM_some {a b x : Int} (h : modM a b = some x) : 0 < b ∧ a % b = x := by
  unfold modM at h
  split at h
  · rename_i c; exact ⟨c, Option.some.inj h⟩
  · cases h
theorem appM_some {α : Type} {xs ys : List α} {x : α} (h : appM xs x = some ys) : xs.length < 100000 ∧ xs ++ [x] = ys := by
  unfold appM at h
  split at h
  · rename_i c; exact ⟨c, Option.some.inj h⟩
  · cases h
theorem setM_some {α : Type} {xs ys : List α} {i : Int} {x : α} (h : setM xs i x = some ys) : ∃ j, ixM xs.length i = some j ∧ xs.set j x = ys := by
  obtain ⟨j, h1, h2⟩ := bindS h
  exact ⟨j, h1, Option.some.inj h2⟩
theorem rngM_some {n : Int} {xs : List Int} (h : rngM n = some xs) : (-(2 ^ 62) ≤ n ∧ n < 2 ^ 62) ∧ (List.range n.toNat).map (fun (i : Nat) => (i : Int)) = xs := by
  unfold rngM at h
  split at h
  · rename_i c; exact ⟨c, Option.some.inj h⟩
  · cases h
theorem rng2M_some {a b : Int} {xs : List Int} (h : rng2M a b = some xs) : (-(2 ^ 62) ≤ a ∧ a < 2 ^ 62 ∧ -(2 ^ 62) ≤ b ∧ b < 2 ^ 62) ∧ (List.range (b - a).toNat).map (fun (i : Nat) => a + (i : Int)) = xs := by
  unfold rng2M at h
  split at h
  · rename_i c; exact ⟨c, Option.some.inj h⟩
  · cases h
theorem folM_drop {α σ : Type} {f : σ → α → Option σ} {xs : List α} {s r : σ} {i : Nat} {x : α} (hx : xs[i]? = some x) (h : folM f (xs.drop i) s = some r) :
    ∃ s', f s x = some s' ∧ folM f (xs.drop (i + 1)) s' = some r := by
  have hi : i < xs.length := (List.getElem?_eq_some_iff.mp hx).1
  have e : xs[i] = x := (List.getElem?_eq_some_iff.mp hx).2
  rw [List.drop_eq_getElem_cons hi, e] at h
  exact bindS h
theorem forL_drop {α σ ρ : Type} {f : σ → α → Option (Bf σ ρ)} {xs : List α} {s : σ} {r : Fl σ ρ} {i : Nat} {x : α} (hx : xs[i]? = some x) (h : forL f (xs.drop i) s = some r) :
    ∃ b, f s x = some b ∧ conL f (xs.drop (i + 1)) b = some r := by
  have hi : i < xs.length := (List.getElem?_eq_some_iff.mp hx).1
  have e : xs[i] = x := (List.getElem?_eq_some_iff.mp hx).2
  rw [List.drop_eq_getElem_cons hi, e, forL_cons] at h
  exact bindS h
theorem enumF_get {α : Type} : ∀ (xs : List α) (k i : Nat), (enumF k xs)[i]? = (xs[i]?).map fun x => (((k + i : Nat) : Int), x)
  | [], k, i => by simp [enumF]
  | x :: xs, k, 0 => by simp [enumF]
  | x :: xs, k, i + 1 => by
    show (enumF (k + 1) xs)[i]? = _
    rw [enumF_get xs (k + 1) i]
    have e : k + 1 + i = k + (i + 1) := by omega
    rw [e]
    rfl
theorem enumF_length {α : Type} : ∀ (xs : List α) (k : Nat), (enumF k xs).length = xs.length
  | [], _ => rfl
  | x :: xs, k => congrArg Nat.succ (enumF_length xs (k + 1))
theorem enumM_get {α : Type} (xs : List α) (i : Nat) : (enumM xs)[i]? = (xs[i]?).map fun x => ((i : Int), x) := by
  unfold enumM
  rw [enumF_get, Nat.zero_add]
theorem enumM_length {α : Type} (xs : List α) : (enumM xs).length = xs.length := enumF_length xs 0
/-- the sides of a ring -/
def sidesM {α : Type} (xs : List α) : List (α × α) := xs.zip (xs.drop 1 ++ xs.take 1)
theorem sidesM_length {α : Type} (xs : List α) : (sidesM xs).length = xs.length := by
  unfold sidesM
  rw [List.length_zip, List.length_append, List.length_drop, List.length_take]
  omega
theorem sidesM_get {α : Type} (xs : List α) {i : Nat} {p : α × α} (h : (sidesM xs)[i]? = some p) : xs[i]? = some p.1 ∧ xs[(i + 1) % xs.length]? = some p.2 := by
  unfold sidesM at h
  rw [List.getElem?_zip_eq_some] at h
  refine ⟨h.1, ?_⟩
  have hi : i < xs.length := (List.getElem?_eq_some_iff.mp h.1).1
  have h2 := h.2
  by_cases hl : i + 1 < xs.length
  · rw [List.getElem?_append_left (by rw [List.length_drop]; omega), List.getElem?_drop, Nat.add_comm] at h2
    rw [Nat.mod_eq_of_lt hl]; exact h2
  · have e : i + 1 = xs.length := by omega
    rw [List.getElem?_append_right (by rw [List.length_drop]; omega), List.length_drop] at h2
    have e2 : i - (xs.length - 1) = 0 := by omega
    rw [e2, List.getElem?_take_of_lt (by decide)] at h2
    rw [e, Nat.mod_self]; exact h2
def sdM {α : Type} (xs : List α) : Option (List (α × α)) := if xs.length ≤ 100000 then some (sidesM xs) else none
theorem sdM_some {α : Type} {xs : List α} {ys : List (α × α)} (h : sdM xs = some ys) : xs.length ≤ 100000 ∧ ys = sidesM xs := by
  unfold sdM at h
  split at h
  · next c => exact ⟨c, (Option.some.inj h).symm⟩
  · cases h
def maxM : List Int → Option Int
  | [] => none
  | x :: xs => some (xs.foldl (fun a b => if a < b then b else a) x)
theorem maxF_ge : ∀ (xs : List Int) (x : Int), x ≤ xs.foldl (fun a b => if a < b then b else a) x ∧ (∀ y ∈ xs, y ≤ xs.foldl (fun a b => if a < b then b else a) x) ∧ (xs.foldl (fun a b => if a < b then b else a) x = x ∨ xs.foldl (fun a b => if a < b then b else a) x ∈ xs)
  | [], x => ⟨Int.le_refl _, (fun y h => by cases h), .inl rfl⟩
  | z :: xs, x => by
    obtain ⟨h1, h2, h3⟩ := maxF_ge xs (if x < z then z else x)
    have ha : x ≤ (if x < z then z else x) := by split <;> omega
    have hb : z ≤ (if x < z then z else x) := by split <;> omega
    refine ⟨Int.le_trans ha h1, fun y hy => ?_, ?_⟩
    · rcases List.mem_cons.mp hy with rfl | hy
      · exact Int.le_trans hb h1
      · exact h2 y hy
    · rcases h3 with h3 | h3
      · show List.foldl _ (if x < z then z else x) xs = x ∨ _
        by_cases c : x < z
        · right
          show List.foldl _ (if x < z then z else x) xs ∈ z :: xs
          rw [h3, if_pos c]; exact List.mem_cons_self ..
        · left
          rw [h3, if_neg c]
      · exact .inr (List.mem_cons_of_mem _ h3)
theorem maxM_some {xs : List Int} {m : Int} (h : maxM xs = some m) : m ∈ xs ∧ (∀ y ∈ xs, y ≤ m) ∧ 0 < xs.length := by
  cases xs with
  | nil => cases h
  | cons x xs =>
    cases h
    obtain ⟨h1, h2, h3⟩ := maxF_ge xs x
    refine ⟨?_, fun y hy => ?_, by simp⟩
    · rcases h3 with h3 | h3
      · rw [h3]; exact List.mem_cons_self ..
      · exact List.mem_cons_of_mem _ h3
    · rcases List.mem_cons.mp hy with rfl | hy
      · exact h1
      · exact h2 y hy
theorem max_uniq {xs : List Int} {m m' : Int} (h : m ∈ xs ∧ ∀ y ∈ xs, y ≤ m) (h' : m' ∈ xs ∧ ∀ y ∈ xs, y ≤ m') : m = m' := by
  have := h.2 m' h'.1
  have := h'.2 m h.1
  omega
end Mr

set_option Elab.async false
set_option linter.all false
set_option maxRecDepth 100000
set_option maxHeartbeats 2000000
/-! Mir: worlds (frozen part G, owned part O), what data a value stands for (R), steps and loops over the readings of HandS. -/
namespace Mr
open PySem PySem.Spec PyProof.Rows L2

/-! ### worlds -/
def Ext (G H : Hp) : Prop := ∀ a o, G a = some o → H a = some o
theorem Ext.refl (H : Hp) : Ext H H := fun _ _ h => h
theorem Ext.trans {H H1 H2 : Hp} (a : Ext H H1) (b : Ext H1 H2) : Ext H H2 := fun x o h => b x o (a x o h)
abbrev Own := List (Addr × HO)
structure Sub (G : Hp) (O : Own) (H : Hp) : Prop where
  ext : Ext G H
  own : ∀ p ∈ O, H p.1 = some p.2 ∧ G p.1 = none
  nd : (O.map (·.1)).Nodup
  nt : ∀ b ps, G b ≠ some (.tbl ps)
section
variable {G G' H H' : Hp} {O O' : Own} {a b p : Addr} {o o' : HO}
theorem Sub.gnone (S : Sub G O H) (hp : H p = none) : G p = none := by
  cases h : G p with
  | none => rfl
  | some u => rw [S.ext p u h] at hp; cases hp
theorem Sub.junk (S : Sub G O H) (hp : H p = none) : Sub G O (upd H p o) := by
  refine ⟨fun x u h => ?_, fun q hq => ?_, S.nd, S.nt⟩
  · rw [upd_ne (ne_of_none (S.ext x u h) hp)]; exact S.ext x u h
  · obtain ⟨h1, h2⟩ := S.own q hq
    exact ⟨by rw [upd_ne (ne_of_none h1 hp)]; exact h1, h2⟩
theorem Sub.extNew (S : Sub G O H) (hp : H p = none) (o : HO) : Ext G (upd G p o) := fun x u h => by
  rw [upd_ne (ne_of_none h (S.gnone hp))]; exact h
theorem Sub.new (S : Sub G O H) (hp : H p = none) (ho : ∀ ps, o ≠ .tbl ps := by intro ps z; cases z) : Sub (upd G p o) O (upd H p o) := by
  refine ⟨fun x u h => ?_, fun q hq => ?_, S.nd, fun b ps z => ?_⟩
  · by_cases e : x = p
    · subst e; rw [upd_same] at h ⊢; exact h
    · rw [upd_ne e] at h ⊢; exact S.ext x u h
  · obtain ⟨h1, h2⟩ := S.own q hq
    have e := ne_of_none h1 hp
    exact ⟨by rw [upd_ne e]; exact h1, by rw [upd_ne e]; exact h2⟩
  · by_cases e : b = p
    · subst e; rw [upd_same] at z; exact ho ps (Option.some.inj z)
    · rw [upd_ne e] at z; exact S.nt b ps z
theorem Sub.newOwn (S : Sub G O H) (hp : H p = none) : Sub G ((p, o) :: O) (upd H p o) := by
  refine ⟨(S.junk hp).ext, fun q hq => ?_, ?_, S.nt⟩
  · rcases List.mem_cons.mp hq with e | hq
    · subst e; exact ⟨upd_same, S.gnone hp⟩
    · exact (S.junk hp).own q hq
  · refine List.nodup_cons.mpr ⟨fun hm => ?_, S.nd⟩
    obtain ⟨q, hq, e⟩ := List.mem_map.mp hm
    exact ne_of_none (S.own q hq).1 hp e
theorem Sub.head (S : Sub G ((a, o) :: O) H) : H a = some o := (S.own (a, o) (List.mem_cons_self ..)).1
theorem Sub.ghead (S : Sub G ((a, o) :: O) H) : G a = none := (S.own (a, o) (List.mem_cons_self ..)).2
theorem Sub.tail (S : Sub G ((a, o) :: O) H) : Sub G O H :=
  ⟨S.ext, fun q hq => S.own q (List.mem_cons_of_mem _ hq), (List.nodup_cons.mp S.nd).2, S.nt⟩
theorem Sub.head_ne (S : Sub G ((a, o) :: O) H) : ∀ q ∈ O, q.1 ≠ a := fun q hq e =>
  (List.nodup_cons.mp S.nd).1 (List.mem_map.mpr ⟨q, hq, e⟩)
/-- the first owned object is written -/
theorem Sub.wr (S : Sub G ((a, o) :: O) H) : Sub G ((a, o') :: O) (upd H a o') := by
  refine ⟨fun x u h => ?_, fun q hq => ?_, S.nd, S.nt⟩
  · have e : x ≠ a := ne_of_none h S.ghead
    rw [upd_ne e]; exact S.ext x u h
  · rcases List.mem_cons.mp hq with e | hq
    · subst e; exact ⟨upd_same, S.ghead⟩
    · have e := S.head_ne q hq
      exact ⟨by rw [upd_ne e]; exact (S.tail.own q hq).1, (S.tail.own q hq).2⟩
/-- the first owned object is frozen -/
theorem Sub.frz (S : Sub G ((a, o) :: O) H) (ho : ∀ ps, o ≠ .tbl ps := by intro ps z; cases z) : Sub (upd G a o) O H := by
  refine ⟨fun x u h => ?_, fun q hq => ?_, S.tail.nd, fun b ps z => ?_⟩
  · by_cases e : x = a
    · subst e; rw [upd_same] at h; cases h; exact S.head
    · rw [upd_ne e] at h; exact S.ext x u h
  · rw [upd_ne (S.head_ne q hq)]; exact S.tail.own q hq
  · by_cases e : b = a
    · subst e; rw [upd_same] at z; exact ho ps (Option.some.inj z)
    · rw [upd_ne e] at z; exact S.nt b ps z
theorem Sub.extFrz (S : Sub G ((a, o) :: O) H) : Ext G (upd G a o) := fun x u h => by
  rw [upd_ne (ne_of_none h S.ghead)]; exact h
theorem Sub.perm (S : Sub G O H) (h : O.Perm O') : Sub G O' H :=
  ⟨S.ext, fun q hq => S.own q (h.mem_iff.mpr hq), (h.map _).nodup_iff.mp S.nd, S.nt⟩
theorem perm_erase {α : Type} : ∀ (l : List α) (i : Nat) (q : α), l[i]? = some q → l.Perm (q :: l.eraseIdx i)
  | [], i, q, h => by simp at h
  | x :: l, 0, q, h => by simp at h; subst h; exact List.Perm.refl _
  | x :: l, i + 1, q, h => by
    have ih := perm_erase l i q (by simpa using h)
    exact (List.Perm.cons x ih).trans (List.Perm.swap q x _)
/-- the i-th owned object to the front -/
theorem Sub.front (S : Sub G O H) (i : Nat) {q : Addr × HO} {O' : Own} (h : O[i]? = some q) (h' : O.eraseIdx i = O') : Sub G (q :: O') H := by
  subst h'
  exact S.perm (perm_erase O i q h)
/-- the begin: the script's list alone is known, and what O says is owned -/
theorem Sub.start {K : PySem.W.Frag} {H : Hp} {O : Own} {a : Addr} {xs : List V} (h : SqL K H a xs) (ho : ∀ p ∈ O, H p.1 = some p.2 ∧ p.1 ≠ a) (nd : (O.map (·.1)).Nodup) : ∃ G, Sub G O H ∧ SqL K G a xs := by
  rcases h with (h | ⟨o, h⟩) | h
  · refine ⟨fun b => if b = a then some (.lst xs) else none, ⟨fun b u e => ?_, fun p hp => ⟨(ho p hp).1, if_neg (ho p hp).2⟩, nd, fun b ps e => ?_⟩, .inl (.inl (if_pos rfl))⟩
    · by_cases q : b = a
      · rw [if_pos q] at e; rw [q, ← e]; exact h
      · rw [if_neg q] at e; cases e
    · by_cases q : b = a
      · rw [if_pos q] at e; cases e
      · rw [if_neg q] at e; cases e
  · refine ⟨fun b => if b = a then some (.frz o (.lst xs)) else none, ⟨fun b u e => ?_, fun p hp => ⟨(ho p hp).1, if_neg (ho p hp).2⟩, nd, fun b ps e => ?_⟩, .inl (.inr ⟨o, if_pos rfl⟩)⟩
    · by_cases q : b = a
      · rw [if_pos q] at e; rw [q, ← e]; exact h
      · rw [if_neg q] at e; cases e
    · by_cases q : b = a
      · rw [if_pos q] at e; cases e
      · rw [if_neg q] at e; cases e
  · exact ⟨fun _ => none, ⟨fun b u e => (by cases e), fun p hp => ⟨(ho p hp).1, rfl⟩, nd, fun b ps e => (by cases e)⟩, .inr h⟩
end

/-! ### what a value stands for -/
structure R (α : Type) where
  rel : Hp → V → α → Prop
  mono : ∀ {G G' : Hp} {v : V} {x : α}, Ext G G' → rel G v x → rel G' v x
theorem R.up {α : Type} {r : R α} {G G' : Hp} {v : V} {x : α} (e : Ext G G') (h : r.rel G v x) : r.rel G' v x := r.mono e h
def rSc {α : Type} (f : α → V) : R α := ⟨fun _ v x => v = f x, fun _ h => h⟩
abbrev rInt : R Int := rSc V.int
abbrev rBool : R Bool := rSc V.bl
abbrev rStr : R Str := rSc V.str
abbrev rNon : R Unit := rSc fun _ => V.non
def Al {α : Type} (r : R α) (G : Hp) : List V → List α → Prop
  | [], [] => True
  | v :: vs, x :: xs => r.rel G v x ∧ Al r G vs xs
  | _, _ => False
section
variable {α β γ : Type} {r : R α} {G G' H : Hp} {K : PySem.W.Frag} {v w : V} {vs : List V} {x : α} {xs : List α} {a : Addr}
theorem Al.nil : Al r G [] [] := True.intro
theorem Al.up (e : Ext G G') : ∀ {vs : List V} {xs : List α}, Al r G vs xs → Al r G' vs xs
  | [], [], _ => True.intro
  | _ :: _, _ :: _, h => ⟨r.mono e h.1, Al.up e h.2⟩
  | [], _ :: _, h => h.elim
  | _ :: _, [], h => h.elim
theorem Al.len : ∀ {vs : List V} {xs : List α}, Al r G vs xs → vs.length = xs.length
  | [], [], _ => rfl
  | _ :: _, _ :: _, h => congrArg Nat.succ (Al.len h.2)
  | [], _ :: _, h => h.elim
  | _ :: _, [], h => h.elim
theorem Al.get : ∀ {vs : List V} {xs : List α} {i : Nat} {x : α}, Al r G vs xs → xs[i]? = some x → ∃ v, vs[i]? = some v ∧ r.rel G v x
  | [], [], i, x, _, e => by simp at e
  | v :: vs, y :: xs, 0, x, h, e => by simp at e; subst e; exact ⟨v, rfl, h.1⟩
  | v :: vs, y :: xs, i + 1, x, h, e => by
    obtain ⟨w, h1, h2⟩ := Al.get (i := i) h.2 (by simpa using e)
    exact ⟨w, by simpa using h1, h2⟩
  | [], _ :: _, _, _, h, _ => h.elim
  | _ :: _, [], _, _, h, _ => h.elim
theorem Al.getV : ∀ {vs : List V} {xs : List α} {i : Nat} {v : V}, Al r G vs xs → vs[i]? = some v → ∃ x, xs[i]? = some x ∧ r.rel G v x
  | [], [], i, v, _, e => by simp at e
  | v :: vs, y :: xs, 0, w, h, e => by simp at e; subst e; exact ⟨y, rfl, h.1⟩
  | v :: vs, y :: xs, i + 1, w, h, e => by
    obtain ⟨z, h1, h2⟩ := Al.getV (i := i) h.2 (by simpa using e)
    exact ⟨z, by simpa using h1, h2⟩
  | [], _ :: _, _, _, h, _ => h.elim
  | _ :: _, [], _, _, h, _ => h.elim
theorem Al.app : ∀ {vs ws : List V} {xs ys : List α}, Al r G vs xs → Al r G ws ys → Al r G (vs ++ ws) (xs ++ ys)
  | [], _, [], _, _, h => h
  | _ :: _, _, _ :: _, _, h, h' => ⟨h.1, Al.app h.2 h'⟩
  | [], _, _ :: _, _, h, _ => h.elim
  | _ :: _, _, [], _, h, _ => h.elim
theorem Al.set : ∀ {vs : List V} {xs : List α} (i : Nat), Al r G vs xs → r.rel G v x → Al r G (vs.set i v) (xs.set i x)
  | [], [], _, _, _ => True.intro
  | _ :: _, _ :: _, 0, h, h' => ⟨h', h.2⟩
  | _ :: _, _ :: _, i + 1, h, h' => ⟨h.1, Al.set i h.2 h'⟩
  | [], _ :: _, _, h, _ => h.elim
  | _ :: _, [], _, h, _ => h.elim
theorem Al.take : ∀ {vs : List V} {xs : List α} (n : Nat), Al r G vs xs → Al r G (vs.take n) (xs.take n)
  | _, _, 0, _ => True.intro
  | [], [], _ + 1, _ => True.intro
  | _ :: _, _ :: _, n + 1, h => ⟨h.1, Al.take n h.2⟩
  | [], _ :: _, _ + 1, h => h.elim
  | _ :: _, [], _ + 1, h => h.elim
theorem Al.drop : ∀ {vs : List V} {xs : List α} (n : Nat), Al r G vs xs → Al r G (vs.drop n) (xs.drop n)
  | _, _, 0, h => h
  | [], [], _ + 1, _ => True.intro
  | _ :: _, _ :: _, n + 1, h => Al.drop n h.2
  | [], _ :: _, _ + 1, h => h.elim
  | _ :: _, [], _ + 1, h => h.elim
theorem Al.sc {f : α → V} : ∀ {vs : List V} {xs : List α}, Al (rSc f) G vs xs → vs = xs.map f
  | [], [], _ => rfl
  | _ :: _, _ :: _, h => by rw [h.1, Al.sc h.2]; rfl
  | [], _ :: _, h => h.elim
  | _ :: _, [], h => h.elim
theorem Al.ofSc {f : α → V} : ∀ {xs : List α}, Al (rSc f) G (xs.map f) xs
  | [] => True.intro
  | _ :: _ => ⟨rfl, Al.ofSc⟩
end
theorem sqL_up {K : PySem.W.Frag} {G G' : Hp} {a : Addr} {xs : List V} (e : Ext G G') (h : SqL K G a xs) : SqL K G' a xs := by
  rcases h with (h | ⟨o, h⟩) | h
  · exact .inl (.inl (e _ _ h))
  · exact .inl (.inr ⟨o, e _ _ h⟩)
  · exact .inr h
theorem sqT_up {K : PySem.W.Frag} {G G' : Hp} {a : Addr} {xs : List V} (e : Ext G G') (h : SqT K G a xs) : SqT K G' a xs := by
  rcases h with (h | ⟨o, h⟩) | h
  · exact .inl (.inl (e _ _ h))
  · exact .inl (.inr ⟨o, e _ _ h⟩)
  · exact .inr h
section
variable (K : PySem.W.Frag) {α β γ δ : Type}
/-- a list; a tuple of any length; either -/
def rL (r : R α) : R (List α) := ⟨fun G v xs => ∃ p vs, v = .ref p ∧ SqL K G p vs ∧ Al r G vs xs, fun e ⟨p, vs, h1, h2, h3⟩ => ⟨p, vs, h1, sqL_up e h2, h3.up e⟩⟩
def rT (r : R α) : R (List α) := ⟨fun G v xs => ∃ p vs, v = .ref p ∧ SqT K G p vs ∧ Al r G vs xs, fun e ⟨p, vs, h1, h2, h3⟩ => ⟨p, vs, h1, sqT_up e h2, h3.up e⟩⟩
def rQ (r : R α) : R (List α) := ⟨fun G v xs => ∃ p vs, v = .ref p ∧ (SqL K G p vs ∨ SqT K G p vs) ∧ Al r G vs xs, fun e ⟨p, vs, h1, h2, h3⟩ => ⟨p, vs, h1, h2.imp (sqL_up e) (sqT_up e), h3.up e⟩⟩
end

/-! ### rules with a cut, ints and bools compared -/
def tCutE (t : TE) : TE := fun σ H Q => ∃ J : VK, t σ H J ∧ ∀ v H', J v H' → Q v H'
def tCutT (t : TT) : TT := fun σ H Q => ∃ J : Bool → Hp → Prop, t σ H J ∧ ∀ b H', J b H' → Q b H'
def tCutS (t : TS) : TS := fun D σ H => ∃ J : L2.St → Hp → Prop, t { D with nx := J } σ H ∧ ∀ σ' H', J σ' H' → D.nx σ' H'
section
variable {X : Cx} {e : Expr} {st : Stmt} {te : TE} {tt : TT} {ts : TS}
theorem pe_cut (h : PE X e te) : PE X e (tCutE te) := by
  refine ⟨fun pins s σ H Q I hq => ?_⟩
  obtain ⟨J, h1, h2⟩ := hq
  exact thn (h.run pins s σ H J I h1) fun v s1 ⟨x, H1, I1, r1, q1⟩ => ⟨x, H1, I1, r1, h2 _ _ q1⟩
theorem pt_cut (h : PT X e tt) : PT X e (tCutT tt) := by
  refine ⟨fun pins s σ H Q I hq => ?_⟩
  obtain ⟨J, h1, h2⟩ := hq
  exact thn (h.run pins s σ H J I h1) fun b s1 ⟨H1, I1, q1⟩ => ⟨H1, I1, h2 _ _ q1⟩
theorem ps_cut (h : PS X st ts) : PS X st (tCutS ts) := by
  refine ⟨fun pins s σ H D I hq => ?_⟩
  obtain ⟨J, h1, h2⟩ := hq
  refine thn (h.run pins s σ H { D with nx := J } I h1) fun f s1 q => ?_
  cases f with
  | next => obtain ⟨σ', H', I', q⟩ := q; exact ⟨σ', H', I', h2 _ _ q⟩
  | ret v => exact q
  | brk => exact q
  | cont => exact q
theorem op_eqI : OpR X (compareOp .Eq) (rI0 fun i j => .bl (decide (i = j))) := fun pins s σ H x y v u Q I rx ry h => by
  obtain ⟨i, j, rfl, rfl, q⟩ := h
  refine op_eq pins s σ H _ _ v u Q I rx ry ⟨rfl, ?_⟩
  have e : decide (V.int i = V.int j) = decide (i = j) := by
    by_cases h : i = j
    · subst h; simp
    · rw [decide_eq_false h, decide_eq_false (fun z => h (V.int.inj z))]
  rw [e]; exact q
theorem op_neI : OpR X (compareOp .NotEq) (rI0 fun i j => .bl (!decide (i = j))) := fun pins s σ H x y v u Q I rx ry h => by
  obtain ⟨i, j, rfl, rfl, q⟩ := h
  refine op_ne pins s σ H _ _ v u Q I rx ry ⟨rfl, ?_⟩
  have e : decide (V.int i = V.int j) = decide (i = j) := by
    by_cases h : i = j
    · subst h; simp
    · rw [decide_eq_false h, decide_eq_false (fun z => h (V.int.inj z))]
  rw [e]; exact q
def rB0 (g : Bool → Bool → V) : R2 := fun x y H Q => ∃ i j, x = .bl i ∧ y = .bl j ∧ Q (g i j) H
theorem op_eqB : OpR X (compareOp .Eq) (rB0 fun i j => .bl (i == j)) := fun pins s σ H x y v u Q I rx ry h => by
  obtain ⟨i, j, rfl, rfl, q⟩ := h
  refine op_eq pins s σ H _ _ v u Q I rx ry ⟨rfl, ?_⟩
  have e : decide (V.bl i = V.bl j) = (i == j) := by cases i <;> cases j <;> rfl
  rw [e]; exact q
theorem op_neB : OpR X (compareOp .NotEq) (rB0 fun i j => .bl (i != j)) := fun pins s σ H x y v u Q I rx ry h => by
  obtain ⟨i, j, rfl, rfl, q⟩ := h
  refine op_ne pins s σ H _ _ v u Q I rx ry ⟨rfl, ?_⟩
  have e : (!decide (V.bl i = V.bl j)) = (i != j) := by cases i <;> cases j <;> rfl
  rw [e]; exact q
def rS0 (g : Str → Str → V) : R2 := fun x y H Q => ∃ i j, x = .str i ∧ y = .str j ∧ Q (g i j) H
theorem op_eqS : OpR X (compareOp .Eq) (rS0 fun i j => .bl (decide (i = j))) := fun pins s σ H x y v u Q I rx ry h => by
  obtain ⟨i, j, rfl, rfl, q⟩ := h
  refine op_eq pins s σ H _ _ v u Q I rx ry ⟨rfl, ?_⟩
  have e : decide (V.str i = V.str j) = decide (i = j) := by
    by_cases h : i = j
    · subst h; simp
    · rw [decide_eq_false h, decide_eq_false (fun z => h (V.str.inj z))]
  rw [e]; exact q
theorem op_neS : OpR X (compareOp .NotEq) (rS0 fun i j => .bl (!decide (i = j))) := fun pins s σ H x y v u Q I rx ry h => by
  obtain ⟨i, j, rfl, rfl, q⟩ := h
  refine op_ne pins s σ H _ _ v u Q I rx ry ⟨rfl, ?_⟩
  have e : decide (V.str i = V.str j) = decide (i = j) := by
    by_cases h : i = j
    · subst h; simp
    · rw [decide_eq_false h, decide_eq_false (fun z => h (V.str.inj z))]
  rw [e]; exact q
end

/-! ### relations by name -/
def rLenM (K : PySem.W.Frag) : List V → Hp → VK → Prop := fun xs H Q => ∃ p ys, xs = [.ref p] ∧ (SqL K H p ys ∨ SqT K H p ys) ∧ Q (.int ys.length) H
def rTupOf (K : PySem.W.Frag) : List V → Hp → VK → Prop := fun xs H Q => ∃ p ys, xs = [.ref p] ∧ ((SqL K H p ys ∧ ∀ l, H l = none → Q (.ref l) (upd H l (.tup ys))) ∨ (SqT K H p ys ∧ Q (.ref p) H))
def rListOf (K : PySem.W.Frag) : List V → Hp → VK → Prop := fun xs H Q => ∃ p ys, xs = [.ref p] ∧ (SqL K H p ys ∨ SqT K H p ys) ∧ ∀ l, H l = none → Q (.ref l) (upd H l (.lst ys))
section
variable {X : Cx}
theorem call_lenM : CallR X (.builtin "len") (rLenM X.K) := call_len_seq
theorem call_tupOf : CallR X (.type "tuple") (rTupOf X.K) := call_tuple_of
theorem call_listOf : CallR X (.type "list") (rListOf X.K) := call_list_of
end
def mkTup (xs : List V) (H : Hp) (Q : VK) : Prop := xs.length ≤ sizeLine ∧ ∀ p, H p = none → Q (.ref p) (upd H p (.tup xs))
def mkLst (xs : List V) (H : Hp) (Q : VK) : Prop := xs.length ≤ sizeLine ∧ ∀ p, H p = none → Q (.ref p) (upd H p (.lst xs))
def LpW (g : TG) (tb : TS) (D : Ends) (σ : L2.St) (J : It) (H : Hp) : Prop := ∃ W : Nat → Nat → L2.St → Hp → Prop, (∃ m, W 0 m σ H) ∧ ∀ i m σ H, W i m σ H →
  (J.stop i H ∧ D.nx σ H) ∨ (J.go i H ∧ ∃ N : L2.St → Hp → Prop, (∀ σ' H', N σ' H' → ∃ m', m' < m ∧ W (i + 1) m' σ' H') ∧ ∀ x H', J.yld i H x H' → g x σ H' fun σ2 H2 => tb { D with nx := N, ct := N, bk := D.nx } σ2 H2)
def itL (K : PySem.W.Frag) (x : V) (H : Hp) (RI : It → Hp → Prop) : Prop := ∃ a, x = .ref a ∧ (∃ xs, SqL K H a xs) ∧ RI (Itl K a) H
def itT (K : PySem.W.Frag) (x : V) (H : Hp) (RI : It → Hp → Prop) : Prop := ∃ a, x = .ref a ∧ (∃ xs, SqT K H a xs) ∧ RI (Itt K a) H
def itR (vs : List V) (H : Hp) (RI : It → Hp → Prop) : Prop := ∃ j : Int, vs = [.int j] ∧ -(2 ^ 62) ≤ j ∧ j < 2 ^ 62 ∧ RI (Itr 0 j.toNat) H
def itR2 (vs : List V) (H : Hp) (RI : It → Hp → Prop) : Prop := ∃ i j : Int, vs = [.int i, .int j] ∧ (-(2 ^ 62) ≤ i ∧ i < 2 ^ 62 ∧ -(2 ^ 62) ≤ j ∧ j < 2 ^ 62) ∧ RI (Itr i (j - i).toNat) H
def itE (K : PySem.W.Frag) (vs : List V) (H : Hp) (RI : It → Hp → Prop) : Prop := ∃ a xs, vs = [.ref a] ∧ ((SqL K H a xs ∧ RI (Ite K a) H) ∨ (SqT K H a xs ∧ RI (IteT K a) H))

/-! ### peeling a reading -/
section
variable {σ : L2.St} {H : Hp} {Q : VK} {QB : Bool → Hp → Prop} {QA : List V → Hp → Prop} {QO : Option Int → Hp → Prop} {v : V} {i j l : Nat} {ta tb te : TE} {tt tu : TT} {ts tr : TS} {t : TA} {D : Ends} {K : PySem.W.Frag}
theorem gV (e : σ[i]? = some (some v)) (h : Q v H) : tVar i σ H Q := ⟨v, e, h⟩
theorem gC (h : Q v H) : tC v σ H Q := h
theorem gOp {r : R2} (h : ta σ H fun x H1 => tb σ H1 fun y H2 => r x y H2 Q) : tOp r ta tb σ H Q := h
theorem gUn {r : V → Hp → VK → Prop} (h : ta σ H fun x H1 => r x H1 Q) : tUn r ta σ H Q := h
theorem gTest (h : te σ H fun x H' => ∃ k, x = .bl k ∧ QB k H') : tTest te σ H QB := h
theorem gB (h : te σ H fun x H' => ∃ k, x = .bl k ∧ QB k H') : tB te σ H QB := h
theorem gNot (h : tt σ H fun c H1 => QB (!c) H1) : tNot tt σ H QB := h
theorem gAnd (h : tt σ H fun c H1 => if c = true then tu σ H1 QB else QB false H1) : tAnd tt tu σ H QB := h
theorem gOr (h : tt σ H fun c H1 => if c = true then QB true H1 else tu σ H1 QB) : tOr tt tu σ H QB := h
theorem gAndV (h : ta σ H fun x H1 => ∃ c, x = .bl c ∧ if c = true then tb σ H1 Q else Q (.bl false) H1) : tAndV ta tb σ H Q := h
theorem gOrV (h : ta σ H fun x H1 => ∃ c, x = .bl c ∧ if c = true then Q (.bl true) H1 else tb σ H1 Q) : tOrV ta tb σ H Q := h
theorem gNotV (h : ta σ H fun x H1 => ∃ c, x = .bl c ∧ Q (.bl (!c)) H1) : tNotV ta σ H Q := h
theorem gIf (h : tt σ H fun c H1 => if c = true then ta σ H1 Q else tb σ H1 Q) : tIf tt ta tb σ H Q := h
theorem gCons' (h : ta σ H fun x H1 => t σ H1 fun xs H2 => QA (x :: xs) H2) : tCons ta t σ H QA := h
theorem gNil' (h : QA [] H) : tNil σ H QA := h
theorem gCB {r : List V → Hp → VK → Prop} (h : t σ H fun vs H1 => r vs H1 Q) : tCB r t σ H Q := h
theorem gCall {sp : Sp} {dvs : List V} {E : XK} (h : t σ H fun vs H1 => sp (vs ++ dvs) H1 Q E) : tCall sp dvs E t σ H Q := h
theorem gTup' (h : t σ H fun xs H1 => mkTup xs H1 Q) : tTup t σ H Q := h
theorem gLst (h : t σ H fun xs H1 => mkLst xs H1 Q) : tLst t σ H Q := h
theorem gSl {r : V → Option Int → Option Int → Hp → VK → Prop} {to tp : TO} (h : te σ H fun x H1 => to σ H1 fun l H2 => tp σ H2 fun u H3 => r x l u H3 Q) : tSl r te to tp σ H Q := h
theorem gPart (h : te σ H fun x H1 => ∃ i, x = .int i ∧ QO (some i) H1) : tPart te σ H QO := h
theorem gNoPart (h : QO none H) : tNoPart σ H QO := h
theorem gBM {T : String} {r : V → List V → Hp → VK → Prop} (h : te σ H fun x H1 => tyV K T x H1 ∧ t σ H1 fun xs H2 => r x xs H2 Q) : tBM K T r te t σ H Q := h
theorem gSeq (h : ts { D with nx := tr D } σ H) : tSeq ts tr D σ H := h
theorem gNext (h : D.nx σ H) : tNext D σ H := h
theorem gAsgN (h : te σ H fun x H1 => D.nx (σ.set i (some x)) H1) : tAsg te (gName i) D σ H := h
theorem gAsg {g : TG} (h : te σ H fun x H1 => g x σ H1 D.nx) : tAsg te g D σ H := h
theorem gSub' {ts' : TSet} {QS : L2.St → Hp → Prop} (h : ta σ H fun o H1 => tb σ H1 fun i H2 => ts' o i v H2 fun H3 => QS σ H3) : gSub ta tb ts' v σ H QS := h
theorem gPar (h : t σ H fun vs H1 => ∃ v w, vs = [v, w] ∧ D.nx ((σ.set i (some v)).set j (some w)) H1) : tPar i j t D σ H := h
theorem gPar3 (h : t σ H fun vs H1 => ∃ u v w, vs = [u, v, w] ∧ D.nx (((σ.set i (some u)).set j (some v)).set l (some w)) H1) : tPar3 i j l t D σ H := h
theorem gAug {ti : TIp} {x : V} (e : σ[i]? = some (some x)) (h : te σ H fun y H1 => ti x y H1 fun z H2 => D.nx (σ.set i (some z)) H2) : tAug i te ti D σ H := ⟨x, e, h⟩
theorem gDrop (h : te σ H fun _ H1 => D.nx σ H1) : tDrop te D σ H := h
theorem gRet (h : te σ H D.rt) : tRet te D σ H := h
theorem gIfS (h : tt σ H fun b H1 => if b = true then ts D σ H1 else tr D σ H1) : tIfS tt ts tr D σ H := h
theorem gFor {wi : TI} {g : TG} (h : wi σ H (LpW g ts D σ)) : tFor wi g ts D σ H := h
variable {RI : It → Hp → Prop}
theorem gIL (h : te σ H fun x H1 => itL K x H1 RI) : iList K te σ H RI := h
theorem gIT (h : te σ H fun x H1 => itT K x H1 RI) : iTup K te σ H RI := h
theorem gIR (h : t σ H fun vs H1 => itR vs H1 RI) : iRng1 t σ H RI := h
theorem gIR2 (h : t σ H fun vs H1 => itR2 vs H1 RI) : iRng2 t σ H RI := h
theorem gIE (h : t σ H fun vs H1 => itE K vs H1 RI) : iEnumQ K t σ H RI := h
theorem gCE (J : VK) (h : te σ H J) (h2 : ∀ v H', J v H' → Q v H') : tCutE te σ H Q := ⟨J, h, h2⟩
theorem gCT (J : Bool → Hp → Prop) (h : tt σ H J) (h2 : ∀ v H', J v H' → QB v H') : tCutT tt σ H QB := ⟨J, h, h2⟩
theorem gCS (J : L2.St → Hp → Prop) (h : ts { D with nx := J } σ H) (h2 : ∀ σ' H', J σ' H' → D.nx σ' H') : tCutS ts D σ H := ⟨J, h, h2⟩
theorem gS_AsgN (h : te σ H fun x H1 => tr D (σ.set i (some x)) H1) : tSeq (tAsg te (gName i)) tr D σ H := h
theorem gS_Asg {g : TG} (h : te σ H fun x H1 => g x σ H1 (tr D)) : tSeq (tAsg te g) tr D σ H := h
theorem gS_Par (h : t σ H fun vs H1 => ∃ v w, vs = [v, w] ∧ tr D ((σ.set i (some v)).set j (some w)) H1) : tSeq (tPar i j t) tr D σ H := h
theorem gS_Par3 (h : t σ H fun vs H1 => ∃ u v w, vs = [u, v, w] ∧ tr D (((σ.set i (some u)).set j (some v)).set l (some w)) H1) : tSeq (tPar3 i j l t) tr D σ H := h
theorem gS_Aug {ti : TIp} {x : V} (e : σ[i]? = some (some x)) (h : te σ H fun y H1 => ti x y H1 fun z H2 => tr D (σ.set i (some z)) H2) : tSeq (tAug i te ti) tr D σ H := ⟨x, e, h⟩
theorem gS_Drop (h : te σ H fun _ H1 => tr D σ H1) : tSeq (tDrop te) tr D σ H := h
theorem gS_IfS {tw : TS} (h : tt σ H fun b H1 => if b = true then ts { D with nx := tr D } σ H1 else tw { D with nx := tr D } σ H1) : tSeq (tIfS tt ts tw) tr D σ H := h
theorem gS_CS (J : L2.St → Hp → Prop) (h : ts { D with nx := J } σ H) (h2 : ∀ σ' H', J σ' H' → tr D σ' H') : tSeq (tCutS ts) tr D σ H := ⟨J, h, h2⟩
theorem gE {f bk ct : L2.St → Hp → Prop} {rt : VK} (h : f σ H) : Ends.nx ⟨f, rt, bk, ct⟩ σ H := h
theorem ne_false {b : Bool} (h : ¬ b = true) : b = false := by
  cases b with
  | true => exact (h rfl).elim
  | false => rfl
end

/-! ### sizes -/
theorem sz {n : Nat} (h : n ≤ 100000) : n ≤ sizeLine := Nat.le_trans h (by decide)
theorem szl {n : Nat} (h : n < 100000) : n < sizeLine := Nat.lt_of_lt_of_le h (by decide)
theorem sz0 : 0 ≤ sizeLine := sz (by decide)
theorem sz1 : 1 ≤ sizeLine := sz (by decide)
theorem sz2 : 2 ≤ sizeLine := sz (by decide)
theorem sz3 : 3 ≤ sizeLine := sz (by decide)
theorem sz4 : 4 ≤ sizeLine := sz (by decide)
theorem sz5 : 5 ≤ sizeLine := sz (by decide)
theorem sz6 : 6 ≤ sizeLine := sz (by decide)

/-! ### steps -/
theorem ix_eq (n : Nat) (i : Int) : ixM n i = ixN n i := rfl
theorem get_eq {α : Type} (xs : List α) (i : Int) : getM xs i = atI xs i := rfl
theorem cut_eq (xs : List V) (lo hi : Option Int) : cutV xs lo hi = cutM xs lo hi := by
  have e : ∀ n d o, HT.sIx n d o = slIx n d o := fun n d o => by cases o <;> rfl
  unfold cutV cutM
  rw [e, e]
section
variable {α β γ δ : Type} {r : R α} {G G' H : Hp} {O : Own} {K : PySem.W.Frag} {v w : V} {vs : List V} {x : α} {xs : List α} {a : Addr} {Q : VK}
theorem Al.getI {i : Int} (h : Al r G vs xs) (e : getM xs i = some x) : ∃ v, atI vs i = some v ∧ r.rel G v x := by
  unfold getM at e
  rw [← h.len] at e
  obtain ⟨j, e1, e2⟩ := bindS e
  obtain ⟨w, h1, h2⟩ := h.get e2
  refine ⟨w, ?_, h2⟩
  show (ixN vs.length i).bind _ = some w
  rw [← ix_eq, e1]
  exact h1
theorem Al.cut {lo hi : Option Int} (h : Al r G vs xs) : Al r G (cutV vs lo hi) (cutM xs lo hi) := by
  rw [cut_eq]
  unfold cutM
  rw [h.len]
  exact (h.drop _).take _
/-- xs[i] of a frozen list, tuple, list or tuple; of an owned list -/
theorem q_ixL {i : Int} (S : Sub G O H) (h : (rL K r).rel G v xs) (e : getM xs i = some x) (q : ∀ w, r.rel G w x → Q w H) : rIxL K v (.int i) H Q := by
  obtain ⟨p, vs, rfl, hs, ha⟩ := h
  obtain ⟨w, h1, h2⟩ := ha.getI e
  exact ⟨p, vs, i, w, rfl, rfl, sqL_up S.ext hs, h1, q w h2⟩
theorem q_ixT {i : Int} (S : Sub G O H) (h : (rT K r).rel G v xs) (e : getM xs i = some x) (q : ∀ w, r.rel G w x → Q w H) : rIxT K v (.int i) H Q := by
  obtain ⟨p, vs, rfl, hs, ha⟩ := h
  obtain ⟨w, h1, h2⟩ := ha.getI e
  exact ⟨p, vs, i, w, rfl, rfl, sqT_up S.ext hs, h1, q w h2⟩
theorem q_ixO {i : Int} (S : Sub G ((a, .lst vs) :: O) H) (h : Al r G vs xs) (e : getM xs i = some x) (q : ∀ w, r.rel G w x → Q w H) : rIxL K (.ref a) (.int i) H Q := by
  obtain ⟨w, h1, h2⟩ := h.getI e
  exact ⟨a, vs, i, w, rfl, rfl, .inl (.inl S.head), h1, q w h2⟩
/-- len -/
theorem q_lenL {y : V} (S : Sub G O H) (h : (rL K r).rel G v xs) (q : Q (.int (xs.length : Int)) H) : rLenM K [v] H Q := by
  obtain ⟨p, vs, rfl, hs, ha⟩ := h
  refine ⟨p, vs, rfl, .inl (sqL_up S.ext hs), ?_⟩
  rw [ha.len]; exact q
theorem q_lenT (S : Sub G O H) (h : (rT K r).rel G v xs) (q : Q (.int (xs.length : Int)) H) : rLenM K [v] H Q := by
  obtain ⟨p, vs, rfl, hs, ha⟩ := h
  refine ⟨p, vs, rfl, .inr (sqT_up S.ext hs), ?_⟩
  rw [ha.len]; exact q
theorem q_lenO (S : Sub G ((a, .lst vs) :: O) H) (h : Al r G vs xs) (q : Q (.int (xs.length : Int)) H) : rLenM K [V.ref a] H Q := by
  refine ⟨a, vs, rfl, .inl (.inl (.inl S.head)), ?_⟩
  rw [h.len]; exact q
end
/-! ### further steps -/
section
variable {α β γ δ : Type} {r : R α} {G G' H : Hp} {O : Own} {K : PySem.W.Frag} {v w : V} {vs : List V} {x : α} {xs ys : List α} {a : Addr} {Q : VK}
theorem q_mul {i j k : Int} (h : mulM i j = some k) (q : Q (.int k) H) : rI CMul (fun i j => .int (i * j)) (.int i) (.int j) H Q := by
  obtain ⟨c, e⟩ := mulM_some h
  exact ⟨i, j, rfl, rfl, c, by show Q (.int (i * j)) H; rw [e]; exact q⟩
theorem q_fdiv {i j k : Int} (h : fdivM i j = some k) (q : Q (.int k) H) : rI CDivW (fun i j => .int (i / j)) (.int i) (.int j) H Q := by
  obtain ⟨c, e⟩ := fdivM_some h
  exact ⟨i, j, rfl, rfl, c, by show Q (.int (i / j)) H; rw [e]; exact q⟩
theorem q_mod {i j k : Int} (h : modM i j = some k) (q : Q (.int k) H) : rI (fun _ j => 0 < j) (fun i j => .int (i % j)) (.int i) (.int j) H Q := by
  obtain ⟨c, e⟩ := modM_some h
  exact ⟨i, j, rfl, rfl, c, by show Q (.int (i % j)) H; rw [e]; exact q⟩
/-- xs.append(e), the first owned list -/
theorem q_app (S : Sub G ((a, .lst vs) :: O) H) (h : Al r G vs xs) (hv : r.rel G v x) (e : appM xs x = some ys) (q : ∀ H' w, Sub G ((a, .lst w) :: O) H' → Al r G w ys → Q .non H') : rAppend (.ref a) [v] H Q := by
  obtain ⟨c, e⟩ := appM_some e
  refine ⟨a, vs, v, rfl, rfl, S.head, szl (by rw [h.len]; exact c), q _ _ S.wr ?_⟩
  rw [← e]
  exact h.app ⟨hv, True.intro⟩
/-- xs[i] = e -/
theorem q_setL {i : Int} {Q : Hp → Prop} (S : Sub G ((a, .lst vs) :: O) H) (h : Al r G vs xs) (hv : r.rel G v x) (e : setM xs i x = some ys) (q : ∀ H' ws, Sub G ((a, .lst ws) :: O) H' → Al r G ws ys → Q H') : rSetL (.ref a) (.int i) v H Q := by
  obtain ⟨j, e1, e2⟩ := setM_some e
  rw [← h.len] at e1
  refine ⟨a, vs, i, j, rfl, rfl, S.head, e1, q _ _ S.wr ?_⟩
  rw [← e2]
  exact h.set j hv
/-- slices: a new list (frozen at once) -/
theorem q_slL {lo hi : Option Int} (S : Sub G O H) (h : (rL K r).rel G v xs) (q : ∀ w G' H', Ext G G' → Sub G' O H' → (rL K r).rel G' w (cutM xs lo hi) → Q w H') : rSlL K v lo hi H Q := by
  obtain ⟨p, vs, rfl, hs, ha⟩ := h
  refine ⟨p, vs, rfl, sqL_up S.ext hs, fun t ht => q _ _ _ (S.extNew ht (.lst (cutV vs lo hi))) (S.new ht) ⟨t, _, rfl, .inl (.inl upd_same), ?_⟩⟩
  exact (ha.up (S.extNew ht _)).cut
/-- a list display, owned -/
theorem q_lst (S : Sub G O H) (h : Al r G vs xs) (hz : vs.length ≤ 100000) (q : ∀ p H' w, Sub G ((p, .lst w) :: O) H' → Al r G w xs → Q (.ref p) H') : mkLst vs H Q :=
  ⟨sz hz, fun p hp => q p _ vs (S.newOwn hp) h⟩
/-- tuple(xs) of an owned list, of a list, of a list or tuple -/
theorem q_tupO (S : Sub G ((a, .lst vs) :: O) H) (h : Al r G vs xs) (q : ∀ u G' H', Ext G G' → Sub G' ((a, .lst vs) :: O) H' → (rT K r).rel G' u xs → Q u H') :
    rTupOf K [V.ref a] H Q :=
  ⟨a, vs, rfl, .inl ⟨.inl (.inl S.head), fun l hl => q _ _ _ (S.extNew hl _) (S.new hl) ⟨l, vs, rfl, .inl (.inl upd_same), h.up (S.extNew hl _)⟩⟩⟩
theorem q_tupL (S : Sub G O H) (h : (rL K r).rel G v xs) (q : ∀ u G' H', Ext G G' → Sub G' O H' → (rT K r).rel G' u xs → Q u H') :
    rTupOf K [v] H Q := by
  obtain ⟨p, vs, rfl, hs, ha⟩ := h
  exact ⟨p, vs, rfl, .inl ⟨sqL_up S.ext hs, fun l hl => q _ _ _ (S.extNew hl _) (S.new hl) ⟨l, vs, rfl, .inl (.inl upd_same), ha.up (S.extNew hl _)⟩⟩⟩
theorem q_tupT (S : Sub G O H) (h : (rT K r).rel G v xs) (q : Q v H) :
    rTupOf K [v] H Q := by
  obtain ⟨p, vs, rfl, hs, ha⟩ := h
  exact ⟨p, vs, rfl, .inr ⟨sqT_up S.ext hs, q⟩⟩
/-- list(xs): a new list, frozen or owned -/
theorem q_listQ (S : Sub G O H) (h : (rQ K r).rel G v xs) (q : ∀ u G' H', Ext G G' → Sub G' O H' → (rL K r).rel G' u xs → Q u H') :
    rListOf K [v] H Q := by
  obtain ⟨p, vs, rfl, hs, ha⟩ := h
  exact ⟨p, vs, rfl, hs.imp (sqL_up S.ext) (sqT_up S.ext), fun l hl => q _ _ _ (S.extNew hl _) (S.new hl) ⟨l, vs, rfl, .inl (.inl upd_same), ha.up (S.extNew hl _)⟩⟩
theorem q_listQo (S : Sub G O H) (h : (rQ K r).rel G v xs) (q : ∀ p vs H', Sub G ((p, .lst vs) :: O) H' → Al r G vs xs → Q (.ref p) H') :
    rListOf K [v] H Q := by
  obtain ⟨p, vs, rfl, hs, ha⟩ := h
  exact ⟨p, vs, rfl, hs.imp (sqL_up S.ext) (sqT_up S.ext), fun l hl => q l vs _ (S.newOwn hl) ha⟩
theorem rL_Q (h : (rL K r).rel G v xs) : (rQ K r).rel G v xs := let ⟨p, vs, e, hs, ha⟩ := h; ⟨p, vs, e, .inl hs, ha⟩
theorem rT_Q (h : (rT K r).rel G v xs) : (rQ K r).rel G v xs := let ⟨p, vs, e, hs, ha⟩ := h; ⟨p, vs, e, .inr hs, ha⟩
/-- an owned list, frozen -/
theorem rL_frz (S : Sub G ((a, .lst vs) :: O) H) (h : Al r G vs xs) : (rL K r).rel (upd G a (.lst vs)) (.ref a) xs := ⟨a, vs, rfl, .inl (.inl upd_same), h.up S.extFrz⟩
theorem frz_L (S : Sub G ((a, .lst vs) :: O) H) (h : Al r G vs xs) : ∃ G', Ext G G' ∧ Sub G' O H ∧ (rL K r).rel G' (.ref a) xs := ⟨_, S.extFrz, S.frz, rL_frz S h⟩
/-- an owned list as the heap has it now -/
theorem rL_own (S : Sub G ((a, .lst vs) :: O) H) (h : Al r G vs xs) : (rL K r).rel H (.ref a) xs := ⟨a, vs, rfl, .inl (.inl S.head), h.up S.ext⟩

/-! types, for isinstance -/
theorem ty_L (h : (rL K r).rel H v xs) : TyX K H v (.type "list") := by
  obtain ⟨p, vs, rfl, hs, _⟩ := h
  rcases hs with (hs | ⟨o, hs⟩) | ⟨o, its, n, h1, h2, _⟩
  · exact .base (.lst hs)
  · exact .base (.frz hs)
  · exact .kList h1 h2
theorem ty_sqT {p : Addr} (hs : SqT K H p vs) : TyX K H (.ref p) (.type "tuple") := by
  rcases hs with (hs | ⟨o, hs⟩) | ⟨o, its, n, h1, h2, _⟩
  · exact .base (.tup hs)
  · exact .fTuple hs
  · exact .kTuple h1 h2
theorem ty_T (h : (rT K r).rel H v xs) : TyX K H v (.type "tuple") := by
  obtain ⟨p, vs, rfl, hs, _⟩ := h
  exact ty_sqT hs
theorem ty_I (i : Int) : TyX K H (.int i) (.type "int") := .base (.int i)
theorem ty_B (b : Bool) : TyX K H (.bl b) (.type "bool") := .base (.bl b)
theorem ty_S (b : Str) : TyX K H (.str b) (.type "str") := .base (.str b)
theorem ty_N : TyX K H .non (.type "NoneType") := .base .non
theorem q_isi {t c : String} {b : Bool} (h : TyX K H v (.type t)) (e : kitB t c = some b) (q : Q (.bl b) H) : rIsi K [v, .ty c] H Q := ⟨v, .ty c, .type t, .type c, b, rfl, .ty c, h, kit_ty e, q⟩
end

/-! ### data and == -/
structure RD (K : PySem.W.Frag) (α : Type) [DecidableEq α] where
  r : R α
  enc : α → PyData
  dep : Nat
  ok : α → Bool
  lay : ∀ x, ok x = true → (enc x).canLay0 = true
  dpt : ∀ x, (enc x).depth ≤ dep
  dp : ∀ {H : Hp} {v : V} {x : α}, r.rel H v x → Dp K H v (enc x)
  eqv : ∀ x y, PyData.eqv (enc x) (enc y) = decide (x = y)
section
variable {K : PySem.W.Frag} {α β γ : Type} [DecidableEq α] [DecidableEq β] [DecidableEq γ]
def dInt : RD K Int := ⟨rInt, .int, 1, fun _ => true, fun _ _ => rfl, fun _ => by simp [PyData.depth], fun {H v x} h => by cases (show v = .int x from h); exact .int x, fun x y => rfl⟩
def dBool : RD K Bool := ⟨rBool, .bool, 1, fun _ => true, fun _ _ => rfl, fun _ => by simp [PyData.depth], fun {H v x} h => by cases (show v = .bl x from h); exact .bl x, fun x y => by cases x <;> cases y <;> rfl⟩
def dStr : RD K Str := ⟨rStr, .str, 1, PyData.strOk, fun _ h => h, fun _ => by simp [PyData.depth], fun {H v x} h => by cases (show v = .str x from h); exact .str x, fun x y => by
  show (x == y) = decide (x = y)
  by_cases e : x = y
  · subst e; simp
  · rw [decide_eq_false e]; exact beq_eq_false_iff_ne.mpr e⟩
theorem Al.dps {r : R α} {enc : α → PyData} {H : Hp} (hd : ∀ {v : V} {x : α}, r.rel H v x → Dp K H v (enc x)) : ∀ {vs : List V} {xs : List α}, Al r H vs xs → DpAll K H vs (xs.map enc)
  | [], [], _ => .nil
  | _ :: _, _ :: _, h => .cons (hd h.1) (Al.dps hd h.2)
  | [], _ :: _, h => h.elim
  | _ :: _, [], h => h.elim
theorem eqvs {enc : α → PyData} (he : ∀ x y, PyData.eqv (enc x) (enc y) = decide (x = y)) : ∀ xs ys : List α, PyData.eqvAll (xs.map enc) (ys.map enc) = decide (xs = ys)
  | [], [] => rfl
  | [], _ :: _ => rfl
  | _ :: _, [] => rfl
  | x :: xs, y :: ys => by
    show (PyData.eqv (enc x) (enc y) && PyData.eqvAll (xs.map enc) (ys.map enc)) = _
    rw [he, eqvs he xs ys]
    by_cases h1 : x = y
    · subst h1
      by_cases h2 : xs = ys
      · subst h2; simp
      · simp [h2]
    · simp [h1]
theorem lays {enc : α → PyData} {ok : α → Bool} (he : ∀ x, ok x = true → (enc x).canLay0 = true) : ∀ xs : List α, xs.all ok = true → PyData.canLayAll0 (xs.map enc) = true
  | [], _ => rfl
  | x :: xs, h => by
    rw [List.all_cons, Bool.and_eq_true] at h
    show (PyData.canLay0 (enc x) && PyData.canLayAll0 (xs.map enc)) = true
    rw [he x h.1, lays he xs h.2]
    rfl
theorem deps {enc : α → PyData} {n : Nat} (he : ∀ x, (enc x).depth ≤ n) : ∀ xs : List α, PyData.depthAll (xs.map enc) ≤ n
  | [] => by simp [PyData.depthAll]
  | x :: xs => by
    have h1 := he x
    have h2 := deps he xs
    simp only [List.map_cons, PyData.depthAll]
    omega
def dL (d : RD K α) : RD K (List α) := ⟨rL K d.r, fun xs => .list (xs.map d.enc), d.dep + 1, fun xs => xs.all d.ok, fun xs h => lays d.lay xs h, fun xs => by have := deps d.dpt xs; simp only [PyData.depth]; omega,
  fun {H v x} h => by obtain ⟨p, vs, rfl, hs, ha⟩ := h; exact .lst hs (ha.dps d.dp), fun x y => eqvs d.eqv x y⟩
def dT (d : RD K α) : RD K (List α) := ⟨rT K d.r, fun xs => .tuple (xs.map d.enc), d.dep + 1, fun xs => xs.all d.ok, fun xs h => lays d.lay xs h, fun xs => by have := deps d.dpt xs; simp only [PyData.depth]; omega,
  fun {H v x} h => by obtain ⟨p, vs, rfl, hs, ha⟩ := h; exact .tup hs (ha.dps d.dp), fun x y => eqvs d.eqv x y⟩
theorem RD.shaped (d : RD K α) (hd : d.dep ≤ 64) {x : α} (h : d.ok x = true) : SeqAt.shaped (d.enc x) = true := by
  unfold SeqAt.shaped
  rw [d.lay x h, decide_eq_true (Nat.le_trans (d.dpt x) hd)]
  rfl
variable {G H : Hp} {O : Own} {v w : V} {x y : α} {Q : VK}
/-- x == y of data: the reps at the heap as it stands -/
theorem q_eqD (d : RD K α) (hd : d.dep ≤ 64) (h1 : d.r.rel H v x) (h2 : d.r.rel H w y) (o1 : d.ok x = true) (o2 : d.ok y = true) (q : Q (.bl (decide (x = y))) H) : rEqD K v w H Q :=
  ⟨d.enc x, d.enc y, d.dp h1, d.dp h2, d.shaped hd o1, d.shaped hd o2, by rw [d.eqv]; exact q⟩
theorem q_neD (d : RD K α) (hd : d.dep ≤ 64) (h1 : d.r.rel H v x) (h2 : d.r.rel H w y) (o1 : d.ok x = true) (o2 : d.ok y = true) (q : Q (.bl (!decide (x = y))) H) : rNeD K v w H Q :=
  ⟨d.enc x, d.enc y, d.dp h1, d.dp h2, d.shaped hd o1, d.shaped hd o2, by rw [d.eqv]; exact q⟩
theorem okI : ∀ x, (dInt (K := K)).ok x = true := fun _ => rfl
theorem okB : ∀ x, (dBool (K := K)).ok x = true := fun _ => rfl
theorem okL {d : RD K α} (h : ∀ x, d.ok x = true) : ∀ xs, (dL d).ok xs = true := fun xs => List.all_eq_true.mpr fun x _ => h x
theorem okT {d : RD K α} (h : ∀ x, d.ok x = true) : ∀ xs, (dT d).ok xs = true := fun xs => List.all_eq_true.mpr fun x _ => h x
theorem ok_all {ok : α → Bool} (h : ∀ x, ok x = true) (xs : List α) : xs.all ok = true := List.all_eq_true.mpr fun x _ => h x
end

/-! ### loops -/
def PvL {α σ ρ : Type} (f : σ → α → Option (Bf σ ρ)) (xs : List α) (res : Fl σ ρ) (I : σ → L2.St → Hp → Prop) (i : Nat) : L2.St → Hp → Prop := fun σ' H => ∃ s, I s σ' H ∧ forL f (xs.drop i) s = some res
section
variable {α β τ ρ : Type} {J : It} {n : Nat} {GW : Hp → Prop} {Y : Nat → Hp → V → Hp → Prop} {f : τ → α → Option (Bf τ ρ)} {xs : List α} {s0 : τ} {res : Fl τ ρ} {I : τ → L2.St → Hp → Prop} {g : TG} {tb : TS} {D : Ends} {σ : L2.St} {H : Hp}
theorem lp_it (w : Walk J n GW Y) (hn : xs.length = n) (hm : forL f xs s0 = some res) (I : τ → L2.St → Hp → Prop) (h0 : I s0 σ H) (hG : ∀ s σ H, I s σ H → GW H)
    (hs : ∀ (i : Nat) (x : α) (s : τ) (b : Bf τ ρ), xs[i]? = some x → f s x = some b → conL f (xs.drop (i + 1)) b = some res → ∀ v σ H H', I s σ H → Y i H v H' →
      g v σ H' fun σ2 H2 => tb { D with nx := PvL f xs res I (i + 1), ct := PvL f xs res I (i + 1), bk := D.nx } σ2 H2)
    (hd : ∀ s σ H, res = .nx s → I s σ H → D.nx σ H) :
    LpW g tb D σ J H := by
  refine for_it w (PvL f xs res I) ⟨s0, h0, hm⟩ (fun i σ H _ ⟨s, hI, _⟩ => hG s σ H hI) (fun i v σ H H' hi ⟨s, hI, hf⟩ hy => ?_) fun σ H ⟨s, hI, hf⟩ => ?_
  · have hx : xs[i]? = some xs[i] := List.getElem?_eq_getElem (by omega)
    obtain ⟨b, hb, hr⟩ := forL_drop hx hf
    exact hs i _ s b hx hb hr v σ H H' hI hy
  · rw [← hn, List.drop_length] at hf
    exact hd s σ H (Option.some.inj hf).symm hI
variable {K : PySem.W.Frag} {G : Hp} {O : Own} {r : R α} {v : V} {vs : List V} {a : Addr}
theorem Al.at {i : Nat} {x : α} {w : V} (h : Al r G vs xs) (hx : xs[i]? = some x) (hw : vs[i]? = some w) : r.rel G w x := by
  obtain ⟨w', h1, h2⟩ := h.get hx
  rw [hw] at h1; cases h1; exact h2
/-- for x in a frozen list -/
theorem lp_L (S : Sub G O H) (h : (rL K r).rel G v xs) (hm : forL f xs s0 = some res) (I : τ → L2.St → Hp → Prop) (h0 : I s0 σ H) (hG : ∀ s σ H, I s σ H → Ext G H)
    (hs : ∀ (i : Nat) (x : α) (s : τ) (b : Bf τ ρ), f s x = some b → conL f (xs.drop (i + 1)) b = some res → ∀ w σ H, I s σ H → r.rel G w x →
      g w σ H fun σ2 H2 => tb { D with nx := PvL f xs res I (i + 1), ct := PvL f xs res I (i + 1), bk := D.nx } σ2 H2)
    (hd : ∀ s σ H, res = .nx s → I s σ H → D.nx σ H) :
    itL K v H (LpW g tb D σ) := by
  obtain ⟨p, vs, rfl, hq, ha⟩ := h
  refine ⟨p, rfl, ⟨vs, sqL_up S.ext hq⟩, lp_it (walk_list (xs := vs)) ha.len.symm hm I h0 (fun s σ H hI => sqL_up (hG s σ H hI) hq) (fun i x s b hx hb hr w σ H H' hI hY => ?_) hd⟩
  obtain ⟨rfl, hw⟩ := hY
  exact hs i x s b hb hr w σ _ hI (ha.at hx hw)
/-- for x in a frozen tuple -/
theorem lp_T (S : Sub G O H) (h : (rT K r).rel G v xs) (hm : forL f xs s0 = some res) (I : τ → L2.St → Hp → Prop) (h0 : I s0 σ H) (hG : ∀ s σ H, I s σ H → Ext G H)
    (hs : ∀ (i : Nat) (x : α) (s : τ) (b : Bf τ ρ), f s x = some b → conL f (xs.drop (i + 1)) b = some res → ∀ w σ H, I s σ H → r.rel G w x →
      g w σ H fun σ2 H2 => tb { D with nx := PvL f xs res I (i + 1), ct := PvL f xs res I (i + 1), bk := D.nx } σ2 H2)
    (hd : ∀ s σ H, res = .nx s → I s σ H → D.nx σ H) :
    itT K v H (LpW g tb D σ) := by
  obtain ⟨p, vs, rfl, hq, ha⟩ := h
  refine ⟨p, rfl, ⟨vs, sqT_up S.ext hq⟩, lp_it (walk_tup (xs := vs)) ha.len.symm hm I h0 (fun s σ H hI => sqT_up (hG s σ H hI) hq) (fun i x s b hx hb hr w σ H H' hI hY => ?_) hd⟩
  obtain ⟨rfl, hw⟩ := hY
  exact hs i x s b hb hr w σ _ hI (ha.at hx hw)
theorem rng_at {n i k : Nat} (h : (List.range n)[i]? = some k) : k = i := by
  obtain ⟨h1, h2⟩ := List.getElem?_eq_some_iff.mp h
  rw [List.getElem_range] at h2
  exact h2.symm
/-- for i in range(n) -/
theorem lp_R {f : τ → Int → Option (Bf τ ρ)} {xs : List Int} {n : Int} (hx : rngM n = some xs) (hm : forL f xs s0 = some res) (I : τ → L2.St → Hp → Prop) (h0 : I s0 σ H)
    (hs : ∀ (i : Nat) (x : Int) (s : τ) (b : Bf τ ρ), f s x = some b → conL f (xs.drop (i + 1)) b = some res → ∀ σ H, I s σ H →
      g (.int x) σ H fun σ2 H2 => tb { D with nx := PvL f xs res I (i + 1), ct := PvL f xs res I (i + 1), bk := D.nx } σ2 H2)
    (hd : ∀ s σ H, res = .nx s → I s σ H → D.nx σ H) :
    itR [V.int n] H (LpW g tb D σ) := by
  obtain ⟨c, rfl⟩ := rngM_some hx
  refine ⟨n, rfl, c.1, c.2, lp_it walk_range (by simp) hm I h0 (fun _ _ _ _ => True.intro) (fun i x s b hx hb hr w σ H H' hI hY => ?_) hd⟩
  obtain ⟨rfl, hw⟩ := hY
  have e : (0 : Int) + (i : Nat) = x := by
    rw [List.getElem?_map] at hx
    obtain ⟨k, h1, h2⟩ := Option.map_eq_some_iff.mp hx
    have := rng_at h1
    omega
  have e2 : w = .int x := by rw [hw, ← e]
  rw [e2]
  exact hs i x s b hb hr σ _ hI
theorem lp_R2 {f : τ → Int → Option (Bf τ ρ)} {xs : List Int} {lo n : Int} (hx : rng2M lo n = some xs) (hm : forL f xs s0 = some res) (I : τ → L2.St → Hp → Prop) (h0 : I s0 σ H)
    (hs : ∀ (i : Nat) (x : Int) (s : τ) (b : Bf τ ρ), f s x = some b → conL f (xs.drop (i + 1)) b = some res → ∀ σ H, I s σ H →
      g (.int x) σ H fun σ2 H2 => tb { D with nx := PvL f xs res I (i + 1), ct := PvL f xs res I (i + 1), bk := D.nx } σ2 H2)
    (hd : ∀ s σ H, res = .nx s → I s σ H → D.nx σ H) :
    itR2 [V.int lo, V.int n] H (LpW g tb D σ) := by
  obtain ⟨c, rfl⟩ := rng2M_some hx
  refine ⟨lo, n, rfl, c, lp_it walk_range (by simp) hm I h0 (fun _ _ _ _ => True.intro) (fun i x s b hx hb hr w σ H H' hI hY => ?_) hd⟩
  obtain ⟨rfl, hw⟩ := hY
  have e : lo + (i : Nat) = x := by
    rw [List.getElem?_map] at hx
    obtain ⟨k, h1, h2⟩ := Option.map_eq_some_iff.mp hx
    have := rng_at h1
    omega
  have e2 : w = .int x := by rw [hw, ← e]
  rw [e2]
  exact hs i x s b hb hr σ _ hI
/-- for i, x in enumerate(a list or a tuple) -/
theorem walk_enumT {xs : List V} : Walk (IteT K a) xs.length (fun H => SqT K H a xs) (YPair (fun i => some (.int (i : Nat))) (fun i => xs[i]?)) := by
  refine ⟨fun i _ hi q => ⟨xs, xs[i], q, by simp [hi]⟩, fun _ q => ⟨xs, q, rfl⟩, fun i H v H' _ q y => ?_⟩
  obtain ⟨T, x, h1, h2, h3, h4⟩ := y
  exact ⟨T, .int (i : Nat), x, h1, h2, h3, rfl, h4 xs q⟩
theorem lp_Eit {f : τ → Int × α → Option (Bf τ ρ)} {i1 i2 : Nat} {J : It} {vs : List V} (w : Walk J vs.length GW (YPair (fun i => some (.int (i : Nat))) (fun i => vs[i]?))) (ha : Al r G vs xs) (hm : forL f (enumM xs) s0 = some res) (I : τ → L2.St → Hp → Prop) (h0 : I s0 σ H) (hG : ∀ s σ H, I s σ H → GW H)
    (hs : ∀ (i : Nat) (x : α) (s : τ) (b : Bf τ ρ), f s ((i : Int), x) = some b → conL f ((enumM xs).drop (i + 1)) b = some res → ∀ w σ H H', I s σ H → (∀ G O, Sub G O H → Sub G O H') → r.rel G w x →
      tb { D with nx := PvL f (enumM xs) res I (i + 1), ct := PvL f (enumM xs) res I (i + 1), bk := D.nx } ((σ.set i1 (some (.int (i : Int)))).set i2 (some w)) H')
    (hd : ∀ s σ H, res = .nx s → I s σ H → D.nx σ H) :
    LpW (gTup K 2 (gCons (gName i1) (gCons (gName i2) gNil))) tb D σ J H := by
  refine lp_it w (by rw [enumM_length, ha.len]) hm I h0 hG (fun i y s b hx hb hr v σ H H' hI hY => ?_) hd
  rw [enumM_get] at hx
  obtain ⟨x, hx2, rfl⟩ := Option.map_eq_some_iff.mp hx
  obtain ⟨T, k, w, rfl, hT, rfl, hk, hw⟩ := hY
  cases hk
  exact ⟨T, _, rfl, .inl (.inl upd_same), rfl, _, _, rfl, _, _, rfl, rfl, hs i x s b hb hr w σ H _ hI (fun G O S => S.junk hT) (ha.at hx2 hw)⟩
/-- for i, x in enumerate(xs): a frozen list or tuple -/
theorem lp_EQ {f : τ → Int × α → Option (Bf τ ρ)} {i1 i2 : Nat} (S : Sub G O H) (h : (rQ K r).rel G v xs) (hm : forL f (enumM xs) s0 = some res) (I : τ → L2.St → Hp → Prop) (h0 : I s0 σ H) (hG : ∀ s σ H, I s σ H → Ext G H)
    (hs : ∀ (i : Nat) (x : α) (s : τ) (b : Bf τ ρ), f s ((i : Int), x) = some b → conL f ((enumM xs).drop (i + 1)) b = some res → ∀ w σ H H', I s σ H → (∀ G O, Sub G O H → Sub G O H') → r.rel G w x →
      tb { D with nx := PvL f (enumM xs) res I (i + 1), ct := PvL f (enumM xs) res I (i + 1), bk := D.nx } ((σ.set i1 (some (.int (i : Int)))).set i2 (some w)) H')
    (hd : ∀ s σ H, res = .nx s → I s σ H → D.nx σ H) :
    itE K [v] H (LpW (gTup K 2 (gCons (gName i1) (gCons (gName i2) gNil))) tb D σ) := by
  obtain ⟨p, vs, rfl, hq, ha⟩ := h
  refine ⟨p, vs, rfl, ?_⟩
  rcases hq with hq | hq
  · exact .inl ⟨sqL_up S.ext hq, lp_Eit walk_enum ha hm I h0 (fun s σ H hI => sqL_up (hG s σ H hI) hq) hs hd⟩
  · exact .inr ⟨sqT_up S.ext hq, lp_Eit walk_enumT ha hm I h0 (fun s σ H hI => sqT_up (hG s σ H hI) hq) hs hd⟩
end
end Mr

set_option Elab.async false
set_option linter.all false
set_option maxRecDepth 100000
set_option maxHeartbeats 2000000
/-! MirT: tuples of fixed length (printed by wip/gen/tup.py). -/
namespace Mr
open PySem PySem.Spec PyProof.Rows L2
section
variable {α : Type} {β : Type} {K : PySem.W.Frag} {G H : Hp} {O : Own} {v : V} {Q : VK}
def rP2 (K : PySem.W.Frag) (r0 : R α) (r1 : R β) : R (α × β) := ⟨fun G v x => ∃ p v0 v1, v = .ref p ∧ SqT K G p [v0, v1] ∧ r0.rel G v0 x.1 ∧ r1.rel G v1 x.2, fun e ⟨p, v0, v1, hv, hs, h0, h1⟩ => ⟨p, v0, v1, hv, sqT_up e hs, r0.mono e h0, r1.mono e h1⟩⟩
theorem q_tup2 {r0 : R α} {r1 : R β} {v0 v1 : V} {x0 : α} {x1 : β} (S : Sub G O H) (h0 : r0.rel G v0 x0) (h1 : r1.rel G v1 x1) (q : ∀ u G' H', Ext G G' → Sub G' O H' → (rP2 K r0 r1).rel G' u (x0, x1) → Q u H') : mkTup [v0, v1] H Q :=
  ⟨sz (by show 2 ≤ 100000; decide), fun p hp => q _ _ _ (S.extNew hp _) (S.new hp) ⟨p, v0, v1, rfl, .inl (.inl upd_same), r0.mono (S.extNew hp _) h0, r1.mono (S.extNew hp _) h1⟩⟩
theorem q_p2_0 {r0 : R α} {r1 : R β} {y : α × β} (S : Sub G O H) (h : (rP2 K r0 r1).rel G v y) (q : ∀ w, r0.rel G w y.1 → Q w H) : rIxT K v (.int 0) H Q := by
  obtain ⟨p, v0, v1, rfl, hs, h0, h1⟩ := h
  exact ⟨p, _, 0, v0, rfl, rfl, sqT_up S.ext hs, rfl, q v0 h0⟩
theorem q_p2_1 {r0 : R α} {r1 : R β} {y : α × β} (S : Sub G O H) (h : (rP2 K r0 r1).rel G v y) (q : ∀ w, r1.rel G w y.2 → Q w H) : rIxT K v (.int 1) H Q := by
  obtain ⟨p, v0, v1, rfl, hs, h0, h1⟩ := h
  exact ⟨p, _, 1, v1, rfl, rfl, sqT_up S.ext hs, rfl, q v1 h1⟩
theorem q_len2 {r0 : R α} {r1 : R β} {y : α × β} (S : Sub G O H) (h : (rP2 K r0 r1).rel G v y) (q : Q (.int 2) H) : rLenM K [v] H Q := by
  obtain ⟨p, v0, v1, rfl, hs, _⟩ := h
  exact ⟨p, _, rfl, .inr (sqT_up S.ext hs), q⟩
theorem ty_P2 {r0 : R α} {r1 : R β} {y : α × β} (h : (rP2 K r0 r1).rel H v y) : TyX K H v (.type "tuple") := by
  obtain ⟨p, v0, v1, rfl, hs, _⟩ := h
  exact ty_sqT hs
theorem q_gt2 {r0 : R α} {r1 : R β} {y : α × β} {σ : L2.St} {i0 i1 : Nat} {QS : L2.St → Hp → Prop} (S : Sub G O H) (h : (rP2 K r0 r1).rel G v y) (q : ∀ v0 v1, r0.rel G v0 y.1 → r1.rel G v1 y.2 → QS ((σ.set i0 (some v0)).set i1 (some v1)) H) : gTup K 2 (gCons (gName i0) (gCons (gName i1) gNil)) v σ H QS := by
  obtain ⟨p, v0, v1, rfl, hs, h0, h1⟩ := h
  exact ⟨p, _, rfl, sqT_up S.ext hs, rfl, _, _, rfl, _, _, rfl, rfl, q v0 v1 h0 h1⟩
variable [DecidableEq α] [DecidableEq β]
def dP2 (d0 : RD K α) (d1 : RD K β) : RD K (α × β) := ⟨rP2 K d0.r d1.r, fun x => .tuple [d0.enc x.1, d1.enc x.2], d0.dep + d1.dep + 1, fun x => d0.ok x.1 && (d1.ok x.2),
  fun x h => by
    simp only [Bool.and_eq_true] at h
    show (PyData.canLay0 _ && (PyData.canLay0 _ && (true))) = true
    rw [d0.lay _ h.1, d1.lay _ h.2]; rfl,
  fun x => by
    have := d0.dpt x.1
    have := d1.dpt x.2
    simp only [PyData.depth, PyData.depthAll]; omega,
  fun {H v x} h => by
    obtain ⟨p, v0, v1, rfl, hs, h0, h1⟩ := h
    exact .tup hs (.cons (d0.dp h0) (.cons (d1.dp h1) (.nil))),
  fun x y => by
    obtain ⟨a0, a1⟩ := x
    obtain ⟨b0, b1⟩ := y
    show (PyData.eqv _ _ && (PyData.eqv _ _ && (true))) = _
    rw [d0.eqv, d1.eqv]
    simp only [Prod.mk.injEq, Bool.and_true, Bool.decide_and]⟩
theorem okP2 {d0 : RD K α} {d1 : RD K β} (h0 : ∀ x, d0.ok x = true) (h1 : ∀ x, d1.ok x = true) : ∀ x, (dP2 d0 d1).ok x = true := fun x => by
  show (d0.ok x.1 && (d1.ok x.2)) = true
  rw [h0, h1]; rfl
end
section
variable {α : Type} {β : Type} {γ : Type} {K : PySem.W.Frag} {G H : Hp} {O : Own} {v : V} {Q : VK}
def rP3 (K : PySem.W.Frag) (r0 : R α) (r1 : R β) (r2 : R γ) : R (α × β × γ) := ⟨fun G v x => ∃ p v0 v1 v2, v = .ref p ∧ SqT K G p [v0, v1, v2] ∧ r0.rel G v0 x.1 ∧ r1.rel G v1 x.2.1 ∧ r2.rel G v2 x.2.2, fun e ⟨p, v0, v1, v2, hv, hs, h0, h1, h2⟩ => ⟨p, v0, v1, v2, hv, sqT_up e hs, r0.mono e h0, r1.mono e h1, r2.mono e h2⟩⟩
theorem q_tup3 {r0 : R α} {r1 : R β} {r2 : R γ} {v0 v1 v2 : V} {x0 : α} {x1 : β} {x2 : γ} (S : Sub G O H) (h0 : r0.rel G v0 x0) (h1 : r1.rel G v1 x1) (h2 : r2.rel G v2 x2) (q : ∀ u G' H', Ext G G' → Sub G' O H' → (rP3 K r0 r1 r2).rel G' u (x0, x1, x2) → Q u H') : mkTup [v0, v1, v2] H Q :=
  ⟨sz (by show 3 ≤ 100000; decide), fun p hp => q _ _ _ (S.extNew hp _) (S.new hp) ⟨p, v0, v1, v2, rfl, .inl (.inl upd_same), r0.mono (S.extNew hp _) h0, r1.mono (S.extNew hp _) h1, r2.mono (S.extNew hp _) h2⟩⟩
theorem q_p3_0 {r0 : R α} {r1 : R β} {r2 : R γ} {y : α × β × γ} (S : Sub G O H) (h : (rP3 K r0 r1 r2).rel G v y) (q : ∀ w, r0.rel G w y.1 → Q w H) : rIxT K v (.int 0) H Q := by
  obtain ⟨p, v0, v1, v2, rfl, hs, h0, h1, h2⟩ := h
  exact ⟨p, _, 0, v0, rfl, rfl, sqT_up S.ext hs, rfl, q v0 h0⟩
theorem q_p3_1 {r0 : R α} {r1 : R β} {r2 : R γ} {y : α × β × γ} (S : Sub G O H) (h : (rP3 K r0 r1 r2).rel G v y) (q : ∀ w, r1.rel G w y.2.1 → Q w H) : rIxT K v (.int 1) H Q := by
  obtain ⟨p, v0, v1, v2, rfl, hs, h0, h1, h2⟩ := h
  exact ⟨p, _, 1, v1, rfl, rfl, sqT_up S.ext hs, rfl, q v1 h1⟩
theorem q_p3_2 {r0 : R α} {r1 : R β} {r2 : R γ} {y : α × β × γ} (S : Sub G O H) (h : (rP3 K r0 r1 r2).rel G v y) (q : ∀ w, r2.rel G w y.2.2 → Q w H) : rIxT K v (.int 2) H Q := by
  obtain ⟨p, v0, v1, v2, rfl, hs, h0, h1, h2⟩ := h
  exact ⟨p, _, 2, v2, rfl, rfl, sqT_up S.ext hs, rfl, q v2 h2⟩
theorem q_len3 {r0 : R α} {r1 : R β} {r2 : R γ} {y : α × β × γ} (S : Sub G O H) (h : (rP3 K r0 r1 r2).rel G v y) (q : Q (.int 3) H) : rLenM K [v] H Q := by
  obtain ⟨p, v0, v1, v2, rfl, hs, _⟩ := h
  exact ⟨p, _, rfl, .inr (sqT_up S.ext hs), q⟩
theorem ty_P3 {r0 : R α} {r1 : R β} {r2 : R γ} {y : α × β × γ} (h : (rP3 K r0 r1 r2).rel H v y) : TyX K H v (.type "tuple") := by
  obtain ⟨p, v0, v1, v2, rfl, hs, _⟩ := h
  exact ty_sqT hs
theorem q_gt3 {r0 : R α} {r1 : R β} {r2 : R γ} {y : α × β × γ} {σ : L2.St} {i0 i1 i2 : Nat} {QS : L2.St → Hp → Prop} (S : Sub G O H) (h : (rP3 K r0 r1 r2).rel G v y) (q : ∀ v0 v1 v2, r0.rel G v0 y.1 → r1.rel G v1 y.2.1 → r2.rel G v2 y.2.2 → QS (((σ.set i0 (some v0)).set i1 (some v1)).set i2 (some v2)) H) : gTup K 3 (gCons (gName i0) (gCons (gName i1) (gCons (gName i2) gNil))) v σ H QS := by
  obtain ⟨p, v0, v1, v2, rfl, hs, h0, h1, h2⟩ := h
  exact ⟨p, _, rfl, sqT_up S.ext hs, rfl, _, _, rfl, _, _, rfl, _, _, rfl, rfl, q v0 v1 v2 h0 h1 h2⟩
variable [DecidableEq α] [DecidableEq β] [DecidableEq γ]
def dP3 (d0 : RD K α) (d1 : RD K β) (d2 : RD K γ) : RD K (α × β × γ) := ⟨rP3 K d0.r d1.r d2.r, fun x => .tuple [d0.enc x.1, d1.enc x.2.1, d2.enc x.2.2], d0.dep + d1.dep + d2.dep + 1, fun x => d0.ok x.1 && (d1.ok x.2.1 && (d2.ok x.2.2)),
  fun x h => by
    simp only [Bool.and_eq_true] at h
    show (PyData.canLay0 _ && (PyData.canLay0 _ && (PyData.canLay0 _ && (true)))) = true
    rw [d0.lay _ h.1, d1.lay _ h.2.1, d2.lay _ h.2.2]; rfl,
  fun x => by
    have := d0.dpt x.1
    have := d1.dpt x.2.1
    have := d2.dpt x.2.2
    simp only [PyData.depth, PyData.depthAll]; omega,
  fun {H v x} h => by
    obtain ⟨p, v0, v1, v2, rfl, hs, h0, h1, h2⟩ := h
    exact .tup hs (.cons (d0.dp h0) (.cons (d1.dp h1) (.cons (d2.dp h2) (.nil)))),
  fun x y => by
    obtain ⟨a0, a1, a2⟩ := x
    obtain ⟨b0, b1, b2⟩ := y
    show (PyData.eqv _ _ && (PyData.eqv _ _ && (PyData.eqv _ _ && (true)))) = _
    rw [d0.eqv, d1.eqv, d2.eqv]
    simp only [Prod.mk.injEq, Bool.and_true, Bool.decide_and]⟩
theorem okP3 {d0 : RD K α} {d1 : RD K β} {d2 : RD K γ} (h0 : ∀ x, d0.ok x = true) (h1 : ∀ x, d1.ok x = true) (h2 : ∀ x, d2.ok x = true) : ∀ x, (dP3 d0 d1 d2).ok x = true := fun x => by
  show (d0.ok x.1 && (d1.ok x.2.1 && (d2.ok x.2.2))) = true
  rw [h0, h1, h2]; rfl
end
section
variable {α : Type} {β : Type} {γ : Type} {δ : Type} {K : PySem.W.Frag} {G H : Hp} {O : Own} {v : V} {Q : VK}
def rP4 (K : PySem.W.Frag) (r0 : R α) (r1 : R β) (r2 : R γ) (r3 : R δ) : R (α × β × γ × δ) := ⟨fun G v x => ∃ p v0 v1 v2 v3, v = .ref p ∧ SqT K G p [v0, v1, v2, v3] ∧ r0.rel G v0 x.1 ∧ r1.rel G v1 x.2.1 ∧ r2.rel G v2 x.2.2.1 ∧ r3.rel G v3 x.2.2.2, fun e ⟨p, v0, v1, v2, v3, hv, hs, h0, h1, h2, h3⟩ => ⟨p, v0, v1, v2, v3, hv, sqT_up e hs, r0.mono e h0, r1.mono e h1, r2.mono e h2, r3.mono e h3⟩⟩
theorem q_tup4 {r0 : R α} {r1 : R β} {r2 : R γ} {r3 : R δ} {v0 v1 v2 v3 : V} {x0 : α} {x1 : β} {x2 : γ} {x3 : δ} (S : Sub G O H) (h0 : r0.rel G v0 x0) (h1 : r1.rel G v1 x1) (h2 : r2.rel G v2 x2) (h3 : r3.rel G v3 x3) (q : ∀ u G' H', Ext G G' → Sub G' O H' → (rP4 K r0 r1 r2 r3).rel G' u (x0, x1, x2, x3) → Q u H') : mkTup [v0, v1, v2, v3] H Q :=
  ⟨sz (by show 4 ≤ 100000; decide), fun p hp => q _ _ _ (S.extNew hp _) (S.new hp) ⟨p, v0, v1, v2, v3, rfl, .inl (.inl upd_same), r0.mono (S.extNew hp _) h0, r1.mono (S.extNew hp _) h1, r2.mono (S.extNew hp _) h2, r3.mono (S.extNew hp _) h3⟩⟩
theorem q_p4_0 {r0 : R α} {r1 : R β} {r2 : R γ} {r3 : R δ} {y : α × β × γ × δ} (S : Sub G O H) (h : (rP4 K r0 r1 r2 r3).rel G v y) (q : ∀ w, r0.rel G w y.1 → Q w H) : rIxT K v (.int 0) H Q := by
  obtain ⟨p, v0, v1, v2, v3, rfl, hs, h0, h1, h2, h3⟩ := h
  exact ⟨p, _, 0, v0, rfl, rfl, sqT_up S.ext hs, rfl, q v0 h0⟩
theorem q_p4_1 {r0 : R α} {r1 : R β} {r2 : R γ} {r3 : R δ} {y : α × β × γ × δ} (S : Sub G O H) (h : (rP4 K r0 r1 r2 r3).rel G v y) (q : ∀ w, r1.rel G w y.2.1 → Q w H) : rIxT K v (.int 1) H Q := by
  obtain ⟨p, v0, v1, v2, v3, rfl, hs, h0, h1, h2, h3⟩ := h
  exact ⟨p, _, 1, v1, rfl, rfl, sqT_up S.ext hs, rfl, q v1 h1⟩
theorem q_p4_2 {r0 : R α} {r1 : R β} {r2 : R γ} {r3 : R δ} {y : α × β × γ × δ} (S : Sub G O H) (h : (rP4 K r0 r1 r2 r3).rel G v y) (q : ∀ w, r2.rel G w y.2.2.1 → Q w H) : rIxT K v (.int 2) H Q := by
  obtain ⟨p, v0, v1, v2, v3, rfl, hs, h0, h1, h2, h3⟩ := h
  exact ⟨p, _, 2, v2, rfl, rfl, sqT_up S.ext hs, rfl, q v2 h2⟩
theorem q_p4_3 {r0 : R α} {r1 : R β} {r2 : R γ} {r3 : R δ} {y : α × β × γ × δ} (S : Sub G O H) (h : (rP4 K r0 r1 r2 r3).rel G v y) (q : ∀ w, r3.rel G w y.2.2.2 → Q w H) : rIxT K v (.int 3) H Q := by
  obtain ⟨p, v0, v1, v2, v3, rfl, hs, h0, h1, h2, h3⟩ := h
  exact ⟨p, _, 3, v3, rfl, rfl, sqT_up S.ext hs, rfl, q v3 h3⟩
theorem q_len4 {r0 : R α} {r1 : R β} {r2 : R γ} {r3 : R δ} {y : α × β × γ × δ} (S : Sub G O H) (h : (rP4 K r0 r1 r2 r3).rel G v y) (q : Q (.int 4) H) : rLenM K [v] H Q := by
  obtain ⟨p, v0, v1, v2, v3, rfl, hs, _⟩ := h
  exact ⟨p, _, rfl, .inr (sqT_up S.ext hs), q⟩
theorem ty_P4 {r0 : R α} {r1 : R β} {r2 : R γ} {r3 : R δ} {y : α × β × γ × δ} (h : (rP4 K r0 r1 r2 r3).rel H v y) : TyX K H v (.type "tuple") := by
  obtain ⟨p, v0, v1, v2, v3, rfl, hs, _⟩ := h
  exact ty_sqT hs
theorem q_gt4 {r0 : R α} {r1 : R β} {r2 : R γ} {r3 : R δ} {y : α × β × γ × δ} {σ : L2.St} {i0 i1 i2 i3 : Nat} {QS : L2.St → Hp → Prop} (S : Sub G O H) (h : (rP4 K r0 r1 r2 r3).rel G v y) (q : ∀ v0 v1 v2 v3, r0.rel G v0 y.1 → r1.rel G v1 y.2.1 → r2.rel G v2 y.2.2.1 → r3.rel G v3 y.2.2.2 → QS ((((σ.set i0 (some v0)).set i1 (some v1)).set i2 (some v2)).set i3 (some v3)) H) : gTup K 4 (gCons (gName i0) (gCons (gName i1) (gCons (gName i2) (gCons (gName i3) gNil)))) v σ H QS := by
  obtain ⟨p, v0, v1, v2, v3, rfl, hs, h0, h1, h2, h3⟩ := h
  exact ⟨p, _, rfl, sqT_up S.ext hs, rfl, _, _, rfl, _, _, rfl, _, _, rfl, _, _, rfl, rfl, q v0 v1 v2 v3 h0 h1 h2 h3⟩
variable [DecidableEq α] [DecidableEq β] [DecidableEq γ] [DecidableEq δ]
def dP4 (d0 : RD K α) (d1 : RD K β) (d2 : RD K γ) (d3 : RD K δ) : RD K (α × β × γ × δ) := ⟨rP4 K d0.r d1.r d2.r d3.r, fun x => .tuple [d0.enc x.1, d1.enc x.2.1, d2.enc x.2.2.1, d3.enc x.2.2.2], d0.dep + d1.dep + d2.dep + d3.dep + 1, fun x => d0.ok x.1 && (d1.ok x.2.1 && (d2.ok x.2.2.1 && (d3.ok x.2.2.2))),
  fun x h => by
    simp only [Bool.and_eq_true] at h
    show (PyData.canLay0 _ && (PyData.canLay0 _ && (PyData.canLay0 _ && (PyData.canLay0 _ && (true))))) = true
    rw [d0.lay _ h.1, d1.lay _ h.2.1, d2.lay _ h.2.2.1, d3.lay _ h.2.2.2]; rfl,
  fun x => by
    have := d0.dpt x.1
    have := d1.dpt x.2.1
    have := d2.dpt x.2.2.1
    have := d3.dpt x.2.2.2
    simp only [PyData.depth, PyData.depthAll]; omega,
  fun {H v x} h => by
    obtain ⟨p, v0, v1, v2, v3, rfl, hs, h0, h1, h2, h3⟩ := h
    exact .tup hs (.cons (d0.dp h0) (.cons (d1.dp h1) (.cons (d2.dp h2) (.cons (d3.dp h3) (.nil))))),
  fun x y => by
    obtain ⟨a0, a1, a2, a3⟩ := x
    obtain ⟨b0, b1, b2, b3⟩ := y
    show (PyData.eqv _ _ && (PyData.eqv _ _ && (PyData.eqv _ _ && (PyData.eqv _ _ && (true))))) = _
    rw [d0.eqv, d1.eqv, d2.eqv, d3.eqv]
    simp only [Prod.mk.injEq, Bool.and_true, Bool.decide_and]⟩
theorem okP4 {d0 : RD K α} {d1 : RD K β} {d2 : RD K γ} {d3 : RD K δ} (h0 : ∀ x, d0.ok x = true) (h1 : ∀ x, d1.ok x = true) (h2 : ∀ x, d2.ok x = true) (h3 : ∀ x, d3.ok x = true) : ∀ x, (dP4 d0 d1 d2 d3).ok x = true := fun x => by
  show (d0.ok x.1 && (d1.ok x.2.1 && (d2.ok x.2.2.1 && (d3.ok x.2.2.2)))) = true
  rw [h0, h1, h2, h3]; rfl
end
section
variable {α : Type} {β : Type} {γ : Type} {δ : Type} {ε : Type} {K : PySem.W.Frag} {G H : Hp} {O : Own} {v : V} {Q : VK}
def rP5 (K : PySem.W.Frag) (r0 : R α) (r1 : R β) (r2 : R γ) (r3 : R δ) (r4 : R ε) : R (α × β × γ × δ × ε) := ⟨fun G v x => ∃ p v0 v1 v2 v3 v4, v = .ref p ∧ SqT K G p [v0, v1, v2, v3, v4] ∧ r0.rel G v0 x.1 ∧ r1.rel G v1 x.2.1 ∧ r2.rel G v2 x.2.2.1 ∧ r3.rel G v3 x.2.2.2.1 ∧ r4.rel G v4 x.2.2.2.2, fun e ⟨p, v0, v1, v2, v3, v4, hv, hs, h0, h1, h2, h3, h4⟩ => ⟨p, v0, v1, v2, v3, v4, hv, sqT_up e hs, r0.mono e h0, r1.mono e h1, r2.mono e h2, r3.mono e h3, r4.mono e h4⟩⟩
theorem q_tup5 {r0 : R α} {r1 : R β} {r2 : R γ} {r3 : R δ} {r4 : R ε} {v0 v1 v2 v3 v4 : V} {x0 : α} {x1 : β} {x2 : γ} {x3 : δ} {x4 : ε} (S : Sub G O H) (h0 : r0.rel G v0 x0) (h1 : r1.rel G v1 x1) (h2 : r2.rel G v2 x2) (h3 : r3.rel G v3 x3) (h4 : r4.rel G v4 x4) (q : ∀ u G' H', Ext G G' → Sub G' O H' → (rP5 K r0 r1 r2 r3 r4).rel G' u (x0, x1, x2, x3, x4) → Q u H') : mkTup [v0, v1, v2, v3, v4] H Q :=
  ⟨sz (by show 5 ≤ 100000; decide), fun p hp => q _ _ _ (S.extNew hp _) (S.new hp) ⟨p, v0, v1, v2, v3, v4, rfl, .inl (.inl upd_same), r0.mono (S.extNew hp _) h0, r1.mono (S.extNew hp _) h1, r2.mono (S.extNew hp _) h2, r3.mono (S.extNew hp _) h3, r4.mono (S.extNew hp _) h4⟩⟩
theorem q_p5_0 {r0 : R α} {r1 : R β} {r2 : R γ} {r3 : R δ} {r4 : R ε} {y : α × β × γ × δ × ε} (S : Sub G O H) (h : (rP5 K r0 r1 r2 r3 r4).rel G v y) (q : ∀ w, r0.rel G w y.1 → Q w H) : rIxT K v (.int 0) H Q := by
  obtain ⟨p, v0, v1, v2, v3, v4, rfl, hs, h0, h1, h2, h3, h4⟩ := h
  exact ⟨p, _, 0, v0, rfl, rfl, sqT_up S.ext hs, rfl, q v0 h0⟩
theorem q_p5_1 {r0 : R α} {r1 : R β} {r2 : R γ} {r3 : R δ} {r4 : R ε} {y : α × β × γ × δ × ε} (S : Sub G O H) (h : (rP5 K r0 r1 r2 r3 r4).rel G v y) (q : ∀ w, r1.rel G w y.2.1 → Q w H) : rIxT K v (.int 1) H Q := by
  obtain ⟨p, v0, v1, v2, v3, v4, rfl, hs, h0, h1, h2, h3, h4⟩ := h
  exact ⟨p, _, 1, v1, rfl, rfl, sqT_up S.ext hs, rfl, q v1 h1⟩
theorem q_p5_2 {r0 : R α} {r1 : R β} {r2 : R γ} {r3 : R δ} {r4 : R ε} {y : α × β × γ × δ × ε} (S : Sub G O H) (h : (rP5 K r0 r1 r2 r3 r4).rel G v y) (q : ∀ w, r2.rel G w y.2.2.1 → Q w H) : rIxT K v (.int 2) H Q := by
  obtain ⟨p, v0, v1, v2, v3, v4, rfl, hs, h0, h1, h2, h3, h4⟩ := h
  exact ⟨p, _, 2, v2, rfl, rfl, sqT_up S.ext hs, rfl, q v2 h2⟩
theorem q_p5_3 {r0 : R α} {r1 : R β} {r2 : R γ} {r3 : R δ} {r4 : R ε} {y : α × β × γ × δ × ε} (S : Sub G O H) (h : (rP5 K r0 r1 r2 r3 r4).rel G v y) (q : ∀ w, r3.rel G w y.2.2.2.1 → Q w H) : rIxT K v (.int 3) H Q := by
  obtain ⟨p, v0, v1, v2, v3, v4, rfl, hs, h0, h1, h2, h3, h4⟩ := h
  exact ⟨p, _, 3, v3, rfl, rfl, sqT_up S.ext hs, rfl, q v3 h3⟩
theorem q_p5_4 {r0 : R α} {r1 : R β} {r2 : R γ} {r3 : R δ} {r4 : R ε} {y : α × β × γ × δ × ε} (S : Sub G O H) (h : (rP5 K r0 r1 r2 r3 r4).rel G v y) (q : ∀ w, r4.rel G w y.2.2.2.2 → Q w H) : rIxT K v (.int 4) H Q := by
  obtain ⟨p, v0, v1, v2, v3, v4, rfl, hs, h0, h1, h2, h3, h4⟩ := h
  exact ⟨p, _, 4, v4, rfl, rfl, sqT_up S.ext hs, rfl, q v4 h4⟩
theorem q_len5 {r0 : R α} {r1 : R β} {r2 : R γ} {r3 : R δ} {r4 : R ε} {y : α × β × γ × δ × ε} (S : Sub G O H) (h : (rP5 K r0 r1 r2 r3 r4).rel G v y) (q : Q (.int 5) H) : rLenM K [v] H Q := by
  obtain ⟨p, v0, v1, v2, v3, v4, rfl, hs, _⟩ := h
  exact ⟨p, _, rfl, .inr (sqT_up S.ext hs), q⟩
theorem ty_P5 {r0 : R α} {r1 : R β} {r2 : R γ} {r3 : R δ} {r4 : R ε} {y : α × β × γ × δ × ε} (h : (rP5 K r0 r1 r2 r3 r4).rel H v y) : TyX K H v (.type "tuple") := by
  obtain ⟨p, v0, v1, v2, v3, v4, rfl, hs, _⟩ := h
  exact ty_sqT hs
theorem q_gt5 {r0 : R α} {r1 : R β} {r2 : R γ} {r3 : R δ} {r4 : R ε} {y : α × β × γ × δ × ε} {σ : L2.St} {i0 i1 i2 i3 i4 : Nat} {QS : L2.St → Hp → Prop} (S : Sub G O H) (h : (rP5 K r0 r1 r2 r3 r4).rel G v y) (q : ∀ v0 v1 v2 v3 v4, r0.rel G v0 y.1 → r1.rel G v1 y.2.1 → r2.rel G v2 y.2.2.1 → r3.rel G v3 y.2.2.2.1 → r4.rel G v4 y.2.2.2.2 → QS (((((σ.set i0 (some v0)).set i1 (some v1)).set i2 (some v2)).set i3 (some v3)).set i4 (some v4)) H) : gTup K 5 (gCons (gName i0) (gCons (gName i1) (gCons (gName i2) (gCons (gName i3) (gCons (gName i4) gNil))))) v σ H QS := by
  obtain ⟨p, v0, v1, v2, v3, v4, rfl, hs, h0, h1, h2, h3, h4⟩ := h
  exact ⟨p, _, rfl, sqT_up S.ext hs, rfl, _, _, rfl, _, _, rfl, _, _, rfl, _, _, rfl, _, _, rfl, rfl, q v0 v1 v2 v3 v4 h0 h1 h2 h3 h4⟩
variable [DecidableEq α] [DecidableEq β] [DecidableEq γ] [DecidableEq δ] [DecidableEq ε]
def dP5 (d0 : RD K α) (d1 : RD K β) (d2 : RD K γ) (d3 : RD K δ) (d4 : RD K ε) : RD K (α × β × γ × δ × ε) := ⟨rP5 K d0.r d1.r d2.r d3.r d4.r, fun x => .tuple [d0.enc x.1, d1.enc x.2.1, d2.enc x.2.2.1, d3.enc x.2.2.2.1, d4.enc x.2.2.2.2], d0.dep + d1.dep + d2.dep + d3.dep + d4.dep + 1, fun x => d0.ok x.1 && (d1.ok x.2.1 && (d2.ok x.2.2.1 && (d3.ok x.2.2.2.1 && (d4.ok x.2.2.2.2)))),
  fun x h => by
    simp only [Bool.and_eq_true] at h
    show (PyData.canLay0 _ && (PyData.canLay0 _ && (PyData.canLay0 _ && (PyData.canLay0 _ && (PyData.canLay0 _ && (true)))))) = true
    rw [d0.lay _ h.1, d1.lay _ h.2.1, d2.lay _ h.2.2.1, d3.lay _ h.2.2.2.1, d4.lay _ h.2.2.2.2]; rfl,
  fun x => by
    have := d0.dpt x.1
    have := d1.dpt x.2.1
    have := d2.dpt x.2.2.1
    have := d3.dpt x.2.2.2.1
    have := d4.dpt x.2.2.2.2
    simp only [PyData.depth, PyData.depthAll]; omega,
  fun {H v x} h => by
    obtain ⟨p, v0, v1, v2, v3, v4, rfl, hs, h0, h1, h2, h3, h4⟩ := h
    exact .tup hs (.cons (d0.dp h0) (.cons (d1.dp h1) (.cons (d2.dp h2) (.cons (d3.dp h3) (.cons (d4.dp h4) (.nil)))))),
  fun x y => by
    obtain ⟨a0, a1, a2, a3, a4⟩ := x
    obtain ⟨b0, b1, b2, b3, b4⟩ := y
    show (PyData.eqv _ _ && (PyData.eqv _ _ && (PyData.eqv _ _ && (PyData.eqv _ _ && (PyData.eqv _ _ && (true)))))) = _
    rw [d0.eqv, d1.eqv, d2.eqv, d3.eqv, d4.eqv]
    simp only [Prod.mk.injEq, Bool.and_true, Bool.decide_and]⟩
theorem okP5 {d0 : RD K α} {d1 : RD K β} {d2 : RD K γ} {d3 : RD K δ} {d4 : RD K ε} (h0 : ∀ x, d0.ok x = true) (h1 : ∀ x, d1.ok x = true) (h2 : ∀ x, d2.ok x = true) (h3 : ∀ x, d3.ok x = true) (h4 : ∀ x, d4.ok x = true) : ∀ x, (dP5 d0 d1 d2 d3 d4).ok x = true := fun x => by
  show (d0.ok x.1 && (d1.ok x.2.1 && (d2.ok x.2.2.1 && (d3.ok x.2.2.2.1 && (d4.ok x.2.2.2.2))))) = true
  rw [h0, h1, h2, h3, h4]; rfl
end
section
variable {α : Type} {β : Type} {γ : Type} {δ : Type} {ε : Type} {ζ : Type} {K : PySem.W.Frag} {G H : Hp} {O : Own} {v : V} {Q : VK}
def rP6 (K : PySem.W.Frag) (r0 : R α) (r1 : R β) (r2 : R γ) (r3 : R δ) (r4 : R ε) (r5 : R ζ) : R (α × β × γ × δ × ε × ζ) := ⟨fun G v x => ∃ p v0 v1 v2 v3 v4 v5, v = .ref p ∧ SqT K G p [v0, v1, v2, v3, v4, v5] ∧ r0.rel G v0 x.1 ∧ r1.rel G v1 x.2.1 ∧ r2.rel G v2 x.2.2.1 ∧ r3.rel G v3 x.2.2.2.1 ∧ r4.rel G v4 x.2.2.2.2.1 ∧ r5.rel G v5 x.2.2.2.2.2, fun e ⟨p, v0, v1, v2, v3, v4, v5, hv, hs, h0, h1, h2, h3, h4, h5⟩ => ⟨p, v0, v1, v2, v3, v4, v5, hv, sqT_up e hs, r0.mono e h0, r1.mono e h1, r2.mono e h2, r3.mono e h3, r4.mono e h4, r5.mono e h5⟩⟩
theorem q_tup6 {r0 : R α} {r1 : R β} {r2 : R γ} {r3 : R δ} {r4 : R ε} {r5 : R ζ} {v0 v1 v2 v3 v4 v5 : V} {x0 : α} {x1 : β} {x2 : γ} {x3 : δ} {x4 : ε} {x5 : ζ} (S : Sub G O H) (h0 : r0.rel G v0 x0) (h1 : r1.rel G v1 x1) (h2 : r2.rel G v2 x2) (h3 : r3.rel G v3 x3) (h4 : r4.rel G v4 x4) (h5 : r5.rel G v5 x5) (q : ∀ u G' H', Ext G G' → Sub G' O H' → (rP6 K r0 r1 r2 r3 r4 r5).rel G' u (x0, x1, x2, x3, x4, x5) → Q u H') : mkTup [v0, v1, v2, v3, v4, v5] H Q :=
  ⟨sz (by show 6 ≤ 100000; decide), fun p hp => q _ _ _ (S.extNew hp _) (S.new hp) ⟨p, v0, v1, v2, v3, v4, v5, rfl, .inl (.inl upd_same), r0.mono (S.extNew hp _) h0, r1.mono (S.extNew hp _) h1, r2.mono (S.extNew hp _) h2, r3.mono (S.extNew hp _) h3, r4.mono (S.extNew hp _) h4, r5.mono (S.extNew hp _) h5⟩⟩
theorem q_p6_0 {r0 : R α} {r1 : R β} {r2 : R γ} {r3 : R δ} {r4 : R ε} {r5 : R ζ} {y : α × β × γ × δ × ε × ζ} (S : Sub G O H) (h : (rP6 K r0 r1 r2 r3 r4 r5).rel G v y) (q : ∀ w, r0.rel G w y.1 → Q w H) : rIxT K v (.int 0) H Q := by
  obtain ⟨p, v0, v1, v2, v3, v4, v5, rfl, hs, h0, h1, h2, h3, h4, h5⟩ := h
  exact ⟨p, _, 0, v0, rfl, rfl, sqT_up S.ext hs, rfl, q v0 h0⟩
theorem q_p6_1 {r0 : R α} {r1 : R β} {r2 : R γ} {r3 : R δ} {r4 : R ε} {r5 : R ζ} {y : α × β × γ × δ × ε × ζ} (S : Sub G O H) (h : (rP6 K r0 r1 r2 r3 r4 r5).rel G v y) (q : ∀ w, r1.rel G w y.2.1 → Q w H) : rIxT K v (.int 1) H Q := by
  obtain ⟨p, v0, v1, v2, v3, v4, v5, rfl, hs, h0, h1, h2, h3, h4, h5⟩ := h
  exact ⟨p, _, 1, v1, rfl, rfl, sqT_up S.ext hs, rfl, q v1 h1⟩
theorem q_p6_2 {r0 : R α} {r1 : R β} {r2 : R γ} {r3 : R δ} {r4 : R ε} {r5 : R ζ} {y : α × β × γ × δ × ε × ζ} (S : Sub G O H) (h : (rP6 K r0 r1 r2 r3 r4 r5).rel G v y) (q : ∀ w, r2.rel G w y.2.2.1 → Q w H) : rIxT K v (.int 2) H Q := by
  obtain ⟨p, v0, v1, v2, v3, v4, v5, rfl, hs, h0, h1, h2, h3, h4, h5⟩ := h
  exact ⟨p, _, 2, v2, rfl, rfl, sqT_up S.ext hs, rfl, q v2 h2⟩
theorem q_p6_3 {r0 : R α} {r1 : R β} {r2 : R γ} {r3 : R δ} {r4 : R ε} {r5 : R ζ} {y : α × β × γ × δ × ε × ζ} (S : Sub G O H) (h : (rP6 K r0 r1 r2 r3 r4 r5).rel G v y) (q : ∀ w, r3.rel G w y.2.2.2.1 → Q w H) : rIxT K v (.int 3) H Q := by
  obtain ⟨p, v0, v1, v2, v3, v4, v5, rfl, hs, h0, h1, h2, h3, h4, h5⟩ := h
  exact ⟨p, _, 3, v3, rfl, rfl, sqT_up S.ext hs, rfl, q v3 h3⟩
theorem q_p6_4 {r0 : R α} {r1 : R β} {r2 : R γ} {r3 : R δ} {r4 : R ε} {r5 : R ζ} {y : α × β × γ × δ × ε × ζ} (S : Sub G O H) (h : (rP6 K r0 r1 r2 r3 r4 r5).rel G v y) (q : ∀ w, r4.rel G w y.2.2.2.2.1 → Q w H) : rIxT K v (.int 4) H Q := by
  obtain ⟨p, v0, v1, v2, v3, v4, v5, rfl, hs, h0, h1, h2, h3, h4, h5⟩ := h
  exact ⟨p, _, 4, v4, rfl, rfl, sqT_up S.ext hs, rfl, q v4 h4⟩
theorem q_p6_5 {r0 : R α} {r1 : R β} {r2 : R γ} {r3 : R δ} {r4 : R ε} {r5 : R ζ} {y : α × β × γ × δ × ε × ζ} (S : Sub G O H) (h : (rP6 K r0 r1 r2 r3 r4 r5).rel G v y) (q : ∀ w, r5.rel G w y.2.2.2.2.2 → Q w H) : rIxT K v (.int 5) H Q := by
  obtain ⟨p, v0, v1, v2, v3, v4, v5, rfl, hs, h0, h1, h2, h3, h4, h5⟩ := h
  exact ⟨p, _, 5, v5, rfl, rfl, sqT_up S.ext hs, rfl, q v5 h5⟩
theorem q_len6 {r0 : R α} {r1 : R β} {r2 : R γ} {r3 : R δ} {r4 : R ε} {r5 : R ζ} {y : α × β × γ × δ × ε × ζ} (S : Sub G O H) (h : (rP6 K r0 r1 r2 r3 r4 r5).rel G v y) (q : Q (.int 6) H) : rLenM K [v] H Q := by
  obtain ⟨p, v0, v1, v2, v3, v4, v5, rfl, hs, _⟩ := h
  exact ⟨p, _, rfl, .inr (sqT_up S.ext hs), q⟩
theorem ty_P6 {r0 : R α} {r1 : R β} {r2 : R γ} {r3 : R δ} {r4 : R ε} {r5 : R ζ} {y : α × β × γ × δ × ε × ζ} (h : (rP6 K r0 r1 r2 r3 r4 r5).rel H v y) : TyX K H v (.type "tuple") := by
  obtain ⟨p, v0, v1, v2, v3, v4, v5, rfl, hs, _⟩ := h
  exact ty_sqT hs
theorem q_gt6 {r0 : R α} {r1 : R β} {r2 : R γ} {r3 : R δ} {r4 : R ε} {r5 : R ζ} {y : α × β × γ × δ × ε × ζ} {σ : L2.St} {i0 i1 i2 i3 i4 i5 : Nat} {QS : L2.St → Hp → Prop} (S : Sub G O H) (h : (rP6 K r0 r1 r2 r3 r4 r5).rel G v y) (q : ∀ v0 v1 v2 v3 v4 v5, r0.rel G v0 y.1 → r1.rel G v1 y.2.1 → r2.rel G v2 y.2.2.1 → r3.rel G v3 y.2.2.2.1 → r4.rel G v4 y.2.2.2.2.1 → r5.rel G v5 y.2.2.2.2.2 → QS ((((((σ.set i0 (some v0)).set i1 (some v1)).set i2 (some v2)).set i3 (some v3)).set i4 (some v4)).set i5 (some v5)) H) : gTup K 6 (gCons (gName i0) (gCons (gName i1) (gCons (gName i2) (gCons (gName i3) (gCons (gName i4) (gCons (gName i5) gNil)))))) v σ H QS := by
  obtain ⟨p, v0, v1, v2, v3, v4, v5, rfl, hs, h0, h1, h2, h3, h4, h5⟩ := h
  exact ⟨p, _, rfl, sqT_up S.ext hs, rfl, _, _, rfl, _, _, rfl, _, _, rfl, _, _, rfl, _, _, rfl, _, _, rfl, rfl, q v0 v1 v2 v3 v4 v5 h0 h1 h2 h3 h4 h5⟩
variable [DecidableEq α] [DecidableEq β] [DecidableEq γ] [DecidableEq δ] [DecidableEq ε] [DecidableEq ζ]
def dP6 (d0 : RD K α) (d1 : RD K β) (d2 : RD K γ) (d3 : RD K δ) (d4 : RD K ε) (d5 : RD K ζ) : RD K (α × β × γ × δ × ε × ζ) := ⟨rP6 K d0.r d1.r d2.r d3.r d4.r d5.r, fun x => .tuple [d0.enc x.1, d1.enc x.2.1, d2.enc x.2.2.1, d3.enc x.2.2.2.1, d4.enc x.2.2.2.2.1, d5.enc x.2.2.2.2.2], d0.dep + d1.dep + d2.dep + d3.dep + d4.dep + d5.dep + 1, fun x => d0.ok x.1 && (d1.ok x.2.1 && (d2.ok x.2.2.1 && (d3.ok x.2.2.2.1 && (d4.ok x.2.2.2.2.1 && (d5.ok x.2.2.2.2.2))))),
  fun x h => by
    simp only [Bool.and_eq_true] at h
    show (PyData.canLay0 _ && (PyData.canLay0 _ && (PyData.canLay0 _ && (PyData.canLay0 _ && (PyData.canLay0 _ && (PyData.canLay0 _ && (true))))))) = true
    rw [d0.lay _ h.1, d1.lay _ h.2.1, d2.lay _ h.2.2.1, d3.lay _ h.2.2.2.1, d4.lay _ h.2.2.2.2.1, d5.lay _ h.2.2.2.2.2]; rfl,
  fun x => by
    have := d0.dpt x.1
    have := d1.dpt x.2.1
    have := d2.dpt x.2.2.1
    have := d3.dpt x.2.2.2.1
    have := d4.dpt x.2.2.2.2.1
    have := d5.dpt x.2.2.2.2.2
    simp only [PyData.depth, PyData.depthAll]; omega,
  fun {H v x} h => by
    obtain ⟨p, v0, v1, v2, v3, v4, v5, rfl, hs, h0, h1, h2, h3, h4, h5⟩ := h
    exact .tup hs (.cons (d0.dp h0) (.cons (d1.dp h1) (.cons (d2.dp h2) (.cons (d3.dp h3) (.cons (d4.dp h4) (.cons (d5.dp h5) (.nil))))))),
  fun x y => by
    obtain ⟨a0, a1, a2, a3, a4, a5⟩ := x
    obtain ⟨b0, b1, b2, b3, b4, b5⟩ := y
    show (PyData.eqv _ _ && (PyData.eqv _ _ && (PyData.eqv _ _ && (PyData.eqv _ _ && (PyData.eqv _ _ && (PyData.eqv _ _ && (true))))))) = _
    rw [d0.eqv, d1.eqv, d2.eqv, d3.eqv, d4.eqv, d5.eqv]
    simp only [Prod.mk.injEq, Bool.and_true, Bool.decide_and]⟩
theorem okP6 {d0 : RD K α} {d1 : RD K β} {d2 : RD K γ} {d3 : RD K δ} {d4 : RD K ε} {d5 : RD K ζ} (h0 : ∀ x, d0.ok x = true) (h1 : ∀ x, d1.ok x = true) (h2 : ∀ x, d2.ok x = true) (h3 : ∀ x, d3.ok x = true) (h4 : ∀ x, d4.ok x = true) (h5 : ∀ x, d5.ok x = true) : ∀ x, (dP6 d0 d1 d2 d3 d4 d5).ok x = true := fun x => by
  show (d0.ok x.1 && (d1.ok x.2.1 && (d2.ok x.2.2.1 && (d3.ok x.2.2.2.1 && (d4.ok x.2.2.2.2.1 && (d5.ok x.2.2.2.2.2)))))) = true
  rw [h0, h1, h2, h3, h4, h5]; rfl
end
end Mr

set_option Elab.async false
set_option linter.all false
set_option maxRecDepth 100000
set_option maxHeartbeats 2000000
/-! Mir2: lists that stand by themselves, None, one text or data, truth, +, comprehensions, stars. -/
namespace Mr
open PySem PySem.Spec PyProof.Rows L2
section
variable {α β : Type} {r : R α} {G G' H : Hp} {O : Own} {K : PySem.W.Frag} {v w : V} {vs ws : List V} {x : α} {xs ys zs : List α} {a : Addr} {Q : VK}
/-- a list that the program made -/
def rM (r : R α) : R (List α) := ⟨fun G v xs => ∃ p vs, v = .ref p ∧ G p = some (.lst vs) ∧ Al r G vs xs, fun e ⟨p, vs, h1, h2, h3⟩ => ⟨p, vs, h1, e _ _ h2, h3.up e⟩⟩
theorem rM_L (h : (rM r).rel G v xs) : (rL K r).rel G v xs := let ⟨p, vs, e, h, ha⟩ := h; ⟨p, vs, e, .inl (.inl h), ha⟩
theorem rM_Q (h : (rM r).rel G v xs) : (rQ K r).rel G v xs := rL_Q (rM_L h)
theorem frz_M (S : Sub G ((a, .lst vs) :: O) H) (h : Al r G vs xs) : ∃ G', Ext G G' ∧ Sub G' O H ∧ (rM r).rel G' (.ref a) xs :=
  ⟨_, S.extFrz, S.frz, a, vs, rfl, upd_same, h.up S.extFrz⟩
theorem rM_own (S : Sub G ((a, .lst vs) :: O) H) (h : Al r G vs xs) : (rM r).rel H (.ref a) xs := ⟨a, vs, rfl, S.head, h.up S.ext⟩
theorem q_slM {lo hi : Option Int} (S : Sub G O H) (h : (rL K r).rel G v xs) (q : ∀ w G' H', Ext G G' → Sub G' O H' → (rM r).rel G' w (cutM xs lo hi) → Q w H') : rSlL K v lo hi H Q := by
  obtain ⟨p, vs, rfl, hs, ha⟩ := h
  refine ⟨p, vs, rfl, sqL_up S.ext hs, fun t ht => q _ _ _ (S.extNew ht (.lst (cutV vs lo hi))) (S.new ht) ⟨t, _, rfl, upd_same, ?_⟩⟩
  exact (ha.up (S.extNew ht _)).cut
theorem q_listM (S : Sub G O H) (h : (rQ K r).rel G v xs) (q : ∀ u G' H', Ext G G' → Sub G' O H' → (rM r).rel G' u xs → Q u H') : rListOf K [v] H Q := by
  obtain ⟨p, vs, rfl, hs, ha⟩ := h
  exact ⟨p, vs, rfl, hs.imp (sqL_up S.ext) (sqT_up S.ext), fun l hl => q _ _ _ (S.extNew hl _) (S.new hl) ⟨l, vs, rfl, upd_same, ha.up (S.extNew hl _)⟩⟩
theorem q_listO {vs : List V} {a : Addr} (S : Sub G ((a, .lst vs) :: O) H) (h : Al r G vs xs) (q : ∀ u G' H', Ext G G' → Sub G' ((a, .lst vs) :: O) H' → (rM r).rel G' u xs → Q u H') : rListOf K [V.ref a] H Q :=
  ⟨a, vs, rfl, .inl (.inl (.inl S.head)), fun l hl => q _ _ _ (S.extNew hl _) (S.new hl) ⟨l, vs, rfl, upd_same, h.up (S.extNew hl _)⟩⟩
/-- a list as it stands now: its items by the frozen part -/
def LsAt (r : R α) (G H : Hp) (v : V) (xs : List α) : Prop := ∃ p vs, v = .ref p ∧ H p = some (.lst vs) ∧ Al r G vs xs
theorem ls_M (S : Sub G O H) (h : (rM r).rel G v xs) : LsAt r G H v xs := let ⟨p, vs, e, h, ha⟩ := h; ⟨p, vs, e, S.ext _ _ h, ha⟩
theorem ls_O (S : Sub G ((a, .lst vs) :: O) H) (h : Al r G vs xs) : LsAt r G H (.ref a) xs := ⟨a, vs, rfl, S.head, h⟩
theorem q_cat (S : Sub G O H) (h1 : LsAt r G H v xs) (h2 : LsAt r G H w ys) (e : catM xs ys = some zs) (q : ∀ u G' H', Ext G G' → Sub G' O H' → (rM r).rel G' u zs → Q u H') : rCat v w H Q := by
  obtain ⟨p, vs, rfl, h3, ha⟩ := h1
  obtain ⟨p2, ws, rfl, h4, hb⟩ := h2
  obtain ⟨c, rfl⟩ := catM_some e
  refine ⟨p, p2, vs, ws, rfl, rfl, h3, h4, sz (by rw [ha.len, hb.len]; exact c), fun t ht => q _ _ _ (S.extNew ht _) (S.new ht) ⟨t, _, rfl, upd_same, ?_⟩⟩
  exact (ha.app hb).up (S.extNew ht _)
/-- a tuple display, all places alike -/
theorem q_tupH (S : Sub G O H) (h : Al r G vs xs) (e : szM xs = some ys) (q : ∀ u G' H', Ext G G' → Sub G' O H' → (rT K r).rel G' u ys → Q u H') : mkTup vs H Q := by
  obtain ⟨c, rfl⟩ := szM_some e
  exact ⟨sz (by rw [h.len]; exact c), fun p hp => q _ _ _ (S.extNew hp _) (S.new hp) ⟨p, vs, rfl, .inl (.inl upd_same), h.up (S.extNew hp _)⟩⟩
theorem Al.snoc (h : Al r G vs xs) (hv : r.rel G v x) : Al r G (vs ++ [v]) (xs ++ [x]) := h.app ⟨hv, True.intro⟩
def mkStar (K : PySem.W.Frag) (t : TA) (σ : L2.St) (QA : List V → Hp → Prop) (x : V) (H : Hp) : Prop := ∃ p xs, x = V.ref p ∧ (SqT K H p xs ∨ SqL K H p xs) ∧ t σ H fun ys H2 => QA (xs ++ ys) H2
theorem gStar {te : TE} {t : TA} {σ : L2.St} {QA : List V → Hp → Prop} (h : te σ H (mkStar K t σ QA)) : StX.tStar K te t σ H QA := h
theorem q_starT {t : TA} {σ : L2.St} {QA : List V → Hp → Prop} (S : Sub G O H) (h : (rT K r).rel G v xs) (q : ∀ vs, Al r G vs xs → t σ H fun ys H2 => QA (vs ++ ys) H2) : mkStar K t σ QA v H := by
  obtain ⟨p, vs, rfl, hs, ha⟩ := h
  exact ⟨p, vs, rfl, .inl (sqT_up S.ext hs), q vs ha⟩

/-! ### None or data; one text or data -/
def rO (r : R α) : R (Option α) := ⟨fun G v x => match x with
  | none => v = .non
  | some y => v ≠ .non ∧ r.rel G v y, fun {G G' v x} e h => by
    cases x with
    | none => exact h
    | some y => exact ⟨h.1, r.mono e h.2⟩⟩
theorem rO_none : (rO r).rel G .non none := rfl
theorem rO_some (hn : v ≠ .non) (h : r.rel G v x) : (rO r).rel G v (some x) := ⟨hn, h⟩
theorem rO_get {o : Option α} (h : (rO r).rel G v o) (e : o = some x) : r.rel G v x := by subst e; exact h.2
theorem nn_T (h : (rT K r).rel G v xs) : v ≠ .non := by obtain ⟨p, vs, rfl, _⟩ := h; intro z; cases z
theorem nn_M (h : (rM r).rel G v xs) : v ≠ .non := by obtain ⟨p, vs, rfl, _⟩ := h; intro z; cases z
def rIsNon : R2 := fun x y H Q => y = .non ∧ Q (.bl (decide (x = .non))) H
def rIsNotNon : R2 := fun x y H Q => y = .non ∧ Q (.bl (!decide (x = .non))) H
theorem op_isNon {X : Cx} : OpR X (compareOp .Is) rIsNon := op_isN
theorem op_isNotNon {X : Cx} : OpR X (compareOp .IsNot) rIsNotNon := op_notN
theorem rO_dec {o : Option α} (h : (rO r).rel G v o) : decide (v = .non) = o.isNone := by
  cases o with
  | none => rw [show v = .non from h]; rfl
  | some y => rw [decide_eq_false h.1]; rfl
theorem q_isNon {o : Option α} (h : (rO r).rel G v o) (q : Q (.bl o.isNone) H) : rIsNon v .non H Q := ⟨rfl, by rw [rO_dec h]; exact q⟩
theorem q_isNotNon {o : Option α} (h : (rO r).rel G v o) (q : Q (.bl (!o.isNone)) H) : rIsNotNon v .non H Q := ⟨rfl, by rw [rO_dec h]; exact q⟩
/-- the text c, or data -/
def rA (c : Str) (r : R α) : R (Option α) := ⟨fun G v x => match x with
  | none => v = .str c
  | some y => r.rel G v y, fun {G G' v x} e h => by
    cases x with
    | none => exact h
    | some y => exact r.mono e h⟩
theorem rA_none {c : Str} : (rA c r).rel G (.str c) none := rfl
theorem rA_some {c : Str} (h : r.rel G v x) : (rA c r).rel G v (some x) := h
theorem rA_get {c : Str} {o : Option α} (h : (rA c r).rel G v o) (e : o = some x) : r.rel G v x := by subst e; exact h
end
section
variable {K : PySem.W.Frag} {α : Type} [DecidableEq α]
def dM (d : RD K α) : RD K (List α) := ⟨rM d.r, fun xs => .list (xs.map d.enc), d.dep + 1, fun xs => xs.all d.ok, fun xs h => lays d.lay xs h, fun xs => by have := deps d.dpt xs; simp only [PyData.depth]; omega,
  fun {H v x} h => by obtain ⟨p, vs, rfl, hs, ha⟩ := h; exact .lst (.inl (.inl hs)) (ha.dps d.dp), fun x y => eqvs d.eqv x y⟩
theorem okM {d : RD K α} (h : ∀ x, d.ok x = true) : ∀ xs, (dM d).ok xs = true := fun xs => List.all_eq_true.mpr fun x _ => h x
def isTupD : PyData → Bool
  | .tuple _ => true
  | _ => false
def dA (c : Str) (hc : PyData.strOk c = true) (d : RD K α) (ht : ∀ x, isTupD (d.enc x) = true) : RD K (Option α) := ⟨rA c d.r, fun x => match x with
    | none => .str c
    | some y => d.enc y, d.dep + 1, fun x => match x with
    | none => true
    | some y => d.ok y,
  fun x h => by
    cases x with
    | none => exact hc
    | some y => exact d.lay y h,
  fun x => by
    cases x with
    | none => simp [PyData.depth]
    | some y => exact Nat.le_succ_of_le (d.dpt y),
  fun {H v x} h => by
    cases x with
    | none => cases (show v = .str c from h); exact .str c
    | some y => exact d.dp h,
  fun x y => by
    cases x with
    | none =>
      cases y with
      | none =>
        show (c == c) = decide (none = none)
        simp
      | some y =>
        have h := ht y
        show PyData.eqv (.str c) (d.enc y) = _
        cases e : d.enc y with
        | tuple zs => rfl
        | _ => rw [e] at h; cases h
    | some x =>
      cases y with
      | none =>
        have h := ht x
        show PyData.eqv (d.enc x) (.str c) = _
        cases e : d.enc x with
        | tuple zs => rfl
        | _ => rw [e] at h; cases h
      | some y =>
        show PyData.eqv (d.enc x) (d.enc y) = _
        rw [d.eqv]
        by_cases e : x = y
        · subst e; simp
        · simp [e]⟩
theorem okA {c : Str} {hc : PyData.strOk c = true} {d : RD K α} {ht : ∀ x, isTupD (d.enc x) = true} (h : ∀ x, d.ok x = true) : ∀ x, (dA c hc d ht).ok x = true := fun x => by
  cases x with
  | none => rfl
  | some y => exact h y
def dO (d : RD K α) (ht : ∀ x, isTupD (d.enc x) = true) : RD K (Option α) := ⟨rO d.r, fun x => match x with
    | none => .none
    | some y => d.enc y, d.dep + 1, fun x => match x with
    | none => true
    | some y => d.ok y,
  fun x h => by
    cases x with
    | none => rfl
    | some y => exact d.lay y h,
  fun x => by
    cases x with
    | none => simp [PyData.depth]
    | some y => exact Nat.le_succ_of_le (d.dpt y),
  fun {H v x} h => by
    cases x with
    | none => cases (show v = .non from h); exact .non
    | some y => exact d.dp h.2,
  fun x y => by
    cases x with
    | none =>
      cases y with
      | none => rfl
      | some y =>
        have h := ht y
        show PyData.eqv .none (d.enc y) = _
        cases e : d.enc y with
        | tuple zs => rfl
        | _ => rw [e] at h; cases h
    | some x =>
      cases y with
      | none =>
        have h := ht x
        show PyData.eqv (d.enc x) .none = _
        cases e : d.enc x with
        | tuple zs => rfl
        | _ => rw [e] at h; cases h
      | some y =>
        show PyData.eqv (d.enc x) (d.enc y) = _
        rw [d.eqv]
        by_cases e : x = y
        · subst e; simp
        · simp [e]⟩
theorem okO {d : RD K α} {ht : ∀ x, isTupD (d.enc x) = true} (h : ∀ x, d.ok x = true) : ∀ x, (dO d ht).ok x = true := fun x => by
  cases x with
  | none => rfl
  | some y => exact h y
/-- a text out of a few: e: its encoding (one to one) -/
def rEn {α : Type} (e : α → Str) : R α := rSc fun x => V.str (e x)
def dEn (e : α → Str) (hi : ∀ x y, e x = e y → x = y) (ho : ∀ x, PyData.strOk (e x) = true) : RD K α := ⟨rEn e, fun x => .str (e x), 1, fun _ => true, fun x _ => ho x, fun _ => by simp [PyData.depth], fun {H v x} h => by cases (show v = .str (e x) from h); exact .str _, fun x y => by
  show (e x == e y) = decide (x = y)
  by_cases h : x = y
  · subst h; simp
  · rw [decide_eq_false h]
    exact beq_eq_false_iff_ne.mpr fun z => h (hi x y z)⟩
theorem okEn {e : α → Str} {hi : ∀ x y, e x = e y → x = y} {ho : ∀ x, PyData.strOk (e x) = true} : ∀ x, (dEn (K := K) e hi ho).ok x = true := fun _ => rfl
theorem en_dec {e : α → Str} (hi : ∀ x y, e x = e y → x = y) (x y : α) : decide (e x = e y) = decide (x = y) := by
  by_cases h : x = y
  · subst h; simp
  · rw [decide_eq_false h, decide_eq_false fun z => h (hi x y z)]
end

def rE0 {α : Type} (e : α → Str) (g : α → α → V) : R2 := fun x y H Q => ∃ i j, x = .str (e i) ∧ y = .str (e j) ∧ Q (g i j) H
theorem op_eqE {α : Type} [DecidableEq α] {X : Cx} {e : α → Str} (hi : ∀ x y, e x = e y → x = y) : OpR X (compareOp .Eq) (rE0 e fun i j => .bl (decide (i = j))) := fun pins s σ H x y v u Q I rx ry h => by
  obtain ⟨i, j, rfl, rfl, q⟩ := h
  exact op_eqS pins s σ H _ _ v u Q I rx ry ⟨_, _, rfl, rfl, by show Q (.bl (decide (e i = e j))) H; rw [en_dec hi]; exact q⟩
theorem op_neE {α : Type} [DecidableEq α] {X : Cx} {e : α → Str} (hi : ∀ x y, e x = e y → x = y) : OpR X (compareOp .NotEq) (rE0 e fun i j => .bl (!decide (i = j))) := fun pins s σ H x y v u Q I rx ry h => by
  obtain ⟨i, j, rfl, rfl, q⟩ := h
  exact op_neS pins s σ H _ _ v u Q I rx ry ⟨_, _, rfl, rfl, by show Q (.bl (!decide (e i = e j))) H; rw [en_dec hi]; exact q⟩

/-! ### truth -/
def tTruM (K : PySem.W.Frag) (ta : TE) : TT := fun σ H Q => ta σ H fun x H' => ∃ k, TruV K x H' k ∧ Q k H'
theorem pt_truM {X : Cx} {a : Expr} {ta : TE} (ha : PE X a ta) (he : ∀ whole, isTrue a X.env whole = (do let v ← whole; standAt a.pos; holding [v] (truthy v)) := by intro _; rfl) : PT X a (tTruM X.K ta) := pt_truth ha he
def truM (K : PySem.W.Frag) (x : V) (H : Hp) (Q : Bool → Hp → Prop) : Prop := ∃ k, TruV K x H k ∧ Q k H
section
variable {α : Type} {r : R α} {G H : Hp} {O : Own} {K : PySem.W.Frag} {v : V} {vs : List V} {xs : List α} {a : Addr} {QB : Bool → Hp → Prop}
theorem gTru {ta : TE} {σ : L2.St} (h : ta σ H fun x H' => truM K x H' QB) : tTruM K ta σ H QB := h
theorem emp_eq (h : Al r G vs xs) : (!vs.isEmpty) = !xs.isEmpty := by
  cases vs with
  | nil =>
    cases xs with
    | nil => rfl
    | cons y ys => exact h.elim
  | cons u us =>
    cases xs with
    | nil => exact h.elim
    | cons y ys => rfl
theorem q_truT (S : Sub G O H) (h : (rT K r).rel G v xs) (q : QB (!xs.isEmpty) H) : truM K v H QB := by
  obtain ⟨p, vs, rfl, hs, ha⟩ := h
  exact ⟨_, .inr (.inl ⟨vs, sqT_up S.ext hs, rfl⟩), by rw [emp_eq ha]; exact q⟩
theorem q_truL (S : Sub G O H) (h : (rL K r).rel G v xs) (q : QB (!xs.isEmpty) H) : truM K v H QB := by
  obtain ⟨p, vs, rfl, hs, ha⟩ := h
  exact ⟨_, .inl ⟨vs, sqL_up S.ext hs, rfl⟩, by rw [emp_eq ha]; exact q⟩
theorem q_truO (S : Sub G ((a, .lst vs) :: O) H) (h : Al r G vs xs) (q : QB (!xs.isEmpty) H) : truM K (.ref a) H QB :=
  ⟨_, .inl ⟨vs, .inl (.inl S.head), rfl⟩, by rw [emp_eq h]; exact q⟩
end

/-! ### list comprehensions: a fold whose last state part is the list so far -/
def PvF {α τ : Type} (f : τ → α → Option τ) (xs : List α) (s1 : τ) (I : τ → Hp → Prop) (i : Nat) : Hp → Prop := fun H => ∃ s, I s H ∧ folM f (xs.drop i) s = some s1
def LcW (g : TG) (tt : TT) (te : TE) (vs : List Nat) (σ : L2.St) (Q : VK) (J : It) (H1 : Hp) : Prop := ∀ D, H1 D = none → ∃ W : Nat → Nat → Hp → Prop, (∃ m, W 0 m (upd H1 D (.lst []))) ∧ ∀ i m H, W i m H →
  (J.stop i H ∧ Q (.ref D) H) ∨ (J.go i H ∧ ∃ Nx : Hp → Prop, (∀ H', Nx H' → ∃ m', m' < m ∧ W (i + 1) m' H') ∧ ∀ x H', J.yld i H x H' → g x (wipe σ vs) H' fun σ2 H2 => wipe σ2 vs = wipe σ vs ∧ tt σ2 H2 fun b H3 =>
    if b = true then te σ2 H3 fun y H4 => ∃ acc, H4 D = some (.lst acc) ∧ acc.length < sizeLine ∧ Nx (upd H4 D (.lst (acc ++ [y]))) else Nx H3)
theorem gLc {wi : TI} {g : TG} {tt : TT} {te : TE} {vs : List Nat} {σ : L2.St} {H : Hp} {Q : VK} (h : wi σ H (LcW g tt te vs σ Q)) : tLc wi g tt te vs σ H Q := h
/-- a turn's end: the element is kept -/
def lcEl (D : Addr) (Nx : Hp → Prop) (y : V) (H : Hp) : Prop := ∃ acc, H D = some (.lst acc) ∧ acc.length < sizeLine ∧ Nx (upd H D (.lst (acc ++ [y])))
def lcTurn (tt : TT) (te : TE) (vs : List Nat) (σ : L2.St) (D : Addr) (Nx : Hp → Prop) (σ2 : L2.St) (H2 : Hp) : Prop := wipe σ2 vs = wipe σ vs ∧ tt σ2 H2 fun b H3 => if b = true then te σ2 H3 (lcEl D Nx) else Nx H3
theorem gYes {σ : L2.St} {H : Hp} {QB : Bool → Hp → Prop} (h : QB true H) : tYes σ H QB := h
section
variable {α β τ : Type} {J : It} {n : Nat} {GW : Hp → Prop} {Y : Nat → Hp → V → Hp → Prop} {f : τ → α → Option τ} {xs : List α} {s0 s1 : τ} {g : TG} {tt : TT} {te : TE} {ws : List Nat} {σ : L2.St} {H : Hp} {Q : VK}
theorem lc_fol (w : Walk J n GW Y) (hn : xs.length = n) (hm : folM f xs s0 = some s1) (I : Addr → τ → Hp → Prop) (h0 : ∀ D, H D = none → I D s0 (upd H D (.lst []))) (hG : ∀ D s H, I D s H → GW H)
    (hs : ∀ (D : Addr) (i : Nat) (x : α) (s s' : τ), xs[i]? = some x → f s x = some s' → folM f (xs.drop (i + 1)) s' = some s1 → ∀ v H H', I D s H → Y i H v H' → g v (wipe σ ws) H' (lcTurn tt te ws σ D (PvF f xs s1 (I D) (i + 1))))
    (hd : ∀ D H, I D s1 H → Q (.ref D) H) : LcW g tt te ws σ Q J H := by
  intro D hD
  refine lc_it w (PvF f xs s1 (I D)) ⟨s0, h0 D hD, hm⟩ (fun i H _ ⟨s, hI, _⟩ => hG D s H hI) (fun i v H H' hi ⟨s, hI, hf⟩ hy => ?_) fun H ⟨s, hI, hf⟩ => ?_
  · have hx : xs[i]? = some xs[i] := List.getElem?_eq_getElem (by omega)
    obtain ⟨s', hb, hr⟩ := folM_drop hx hf
    exact hs D i _ s s' hx hb hr v H H' hI hy
  · rw [← hn, List.drop_length] at hf
    cases hf
    exact hd D H hI
variable {K : PySem.W.Frag} {G : Hp} {O : Own} {r : R α} {v : V} {vs : List V} {a : Addr}
theorem lc_L (S : Sub G O H) (h : (rL K r).rel G v xs) (hm : folM f xs s0 = some s1) (I : Addr → τ → Hp → Prop) (h0 : ∀ D, H D = none → I D s0 (upd H D (.lst []))) (hG : ∀ D s H, I D s H → Ext G H)
    (hs : ∀ (D : Addr) (i : Nat) (x : α) (s s' : τ), f s x = some s' → folM f (xs.drop (i + 1)) s' = some s1 → ∀ w H, I D s H → r.rel G w x → g w (wipe σ ws) H (lcTurn tt te ws σ D (PvF f xs s1 (I D) (i + 1))))
    (hd : ∀ D H, I D s1 H → Q (.ref D) H) : itL K v H (LcW g tt te ws σ Q) := by
  obtain ⟨p, vs, rfl, hq, ha⟩ := h
  refine ⟨p, rfl, ⟨vs, sqL_up S.ext hq⟩, lc_fol (walk_list (xs := vs)) ha.len.symm hm I h0 (fun D s H hI => sqL_up (hG D s H hI) hq) (fun D i x s s' hx hb hr w H H' hI hY => ?_) hd⟩
  obtain ⟨rfl, hw⟩ := hY
  exact hs D i x s s' hb hr w _ hI (ha.at hx hw)
theorem lc_T (S : Sub G O H) (h : (rT K r).rel G v xs) (hm : folM f xs s0 = some s1) (I : Addr → τ → Hp → Prop) (h0 : ∀ D, H D = none → I D s0 (upd H D (.lst []))) (hG : ∀ D s H, I D s H → Ext G H)
    (hs : ∀ (D : Addr) (i : Nat) (x : α) (s s' : τ), f s x = some s' → folM f (xs.drop (i + 1)) s' = some s1 → ∀ w H, I D s H → r.rel G w x → g w (wipe σ ws) H (lcTurn tt te ws σ D (PvF f xs s1 (I D) (i + 1))))
    (hd : ∀ D H, I D s1 H → Q (.ref D) H) : itT K v H (LcW g tt te ws σ Q) := by
  obtain ⟨p, vs, rfl, hq, ha⟩ := h
  refine ⟨p, rfl, ⟨vs, sqT_up S.ext hq⟩, lc_fol (walk_tup (xs := vs)) ha.len.symm hm I h0 (fun D s H hI => sqT_up (hG D s H hI) hq) (fun D i x s s' hx hb hr w H H' hI hY => ?_) hd⟩
  obtain ⟨rfl, hw⟩ := hY
  exact hs D i x s s' hb hr w _ hI (ha.at hx hw)
theorem lc_R {f : τ → Int → Option τ} {xs : List Int} {n : Int} (hx : rngM n = some xs) (hm : folM f xs s0 = some s1) (I : Addr → τ → Hp → Prop) (h0 : ∀ D, H D = none → I D s0 (upd H D (.lst [])))
    (hs : ∀ (D : Addr) (i : Nat) (x : Int) (s s' : τ), f s x = some s' → folM f (xs.drop (i + 1)) s' = some s1 → ∀ H, I D s H → g (.int x) (wipe σ ws) H (lcTurn tt te ws σ D (PvF f xs s1 (I D) (i + 1))))
    (hd : ∀ D H, I D s1 H → Q (.ref D) H) : itR [V.int n] H (LcW g tt te ws σ Q) := by
  obtain ⟨c, rfl⟩ := rngM_some hx
  refine ⟨n, rfl, c.1, c.2, lc_fol walk_range (by simp) hm I h0 (fun _ _ _ _ => True.intro) (fun D i x s s' hx hb hr w H H' hI hY => ?_) hd⟩
  obtain ⟨rfl, hw⟩ := hY
  have e : (0 : Int) + (i : Nat) = x := by
    rw [List.getElem?_map] at hx
    obtain ⟨k, h1, h2⟩ := Option.map_eq_some_iff.mp hx
    have := rng_at h1
    omega
  have e2 : w = .int x := by rw [hw, ← e]
  rw [e2]
  exact hs D i x s s' hb hr _ hI
theorem lc_R2 {f : τ → Int → Option τ} {xs : List Int} {lo n : Int} (hx : rng2M lo n = some xs) (hm : folM f xs s0 = some s1) (I : Addr → τ → Hp → Prop) (h0 : ∀ D, H D = none → I D s0 (upd H D (.lst [])))
    (hs : ∀ (D : Addr) (i : Nat) (x : Int) (s s' : τ), f s x = some s' → folM f (xs.drop (i + 1)) s' = some s1 → ∀ H, I D s H → g (.int x) (wipe σ ws) H (lcTurn tt te ws σ D (PvF f xs s1 (I D) (i + 1))))
    (hd : ∀ D H, I D s1 H → Q (.ref D) H) : itR2 [V.int lo, V.int n] H (LcW g tt te ws σ Q) := by
  obtain ⟨c, rfl⟩ := rng2M_some hx
  refine ⟨lo, n, rfl, c, lc_fol walk_range (by simp) hm I h0 (fun _ _ _ _ => True.intro) (fun D i x s s' hx hb hr w H H' hI hY => ?_) hd⟩
  obtain ⟨rfl, hw⟩ := hY
  have e : lo + (i : Nat) = x := by
    rw [List.getElem?_map] at hx
    obtain ⟨k, h1, h2⟩ := Option.map_eq_some_iff.mp hx
    have := rng_at h1
    omega
  have e2 : w = .int x := by rw [hw, ← e]
  rw [e2]
  exact hs D i x s s' hb hr _ hI
theorem lc_Eit {f : τ → Int × α → Option τ} {i1 i2 : Nat} {J : It} {vs : List V} (w : Walk J vs.length GW (YPair (fun i => some (.int (i : Nat))) (fun i => vs[i]?))) (ha : Al r G vs xs) (hm : folM f (enumM xs) s0 = some s1) (I : Addr → τ → Hp → Prop) (h0 : ∀ D, H D = none → I D s0 (upd H D (.lst []))) (hG : ∀ D s H, I D s H → GW H)
    (hs : ∀ (D : Addr) (i : Nat) (x : α) (s s' : τ), f s ((i : Int), x) = some s' → folM f ((enumM xs).drop (i + 1)) s' = some s1 → ∀ w H H', I D s H → (∀ G O, Sub G O H → Sub G O H') → r.rel G w x →
      lcTurn tt te ws σ D (PvF f (enumM xs) s1 (I D) (i + 1)) (((wipe σ ws).set i1 (some (.int (i : Int)))).set i2 (some w)) H')
    (hd : ∀ D H, I D s1 H → Q (.ref D) H) : LcW (gTup K 2 (gCons (gName i1) (gCons (gName i2) gNil))) tt te ws σ Q J H := by
  refine lc_fol w (by rw [enumM_length, ha.len]) hm I h0 hG (fun D i y s s' hx hb hr v H H' hI hY => ?_) hd
  rw [enumM_get] at hx
  obtain ⟨x, hx2, rfl⟩ := Option.map_eq_some_iff.mp hx
  obtain ⟨T, k, w, rfl, hT, rfl, hk, hw⟩ := hY
  cases hk
  exact ⟨T, _, rfl, .inl (.inl upd_same), rfl, _, _, rfl, _, _, rfl, rfl, hs D i x s s' hb hr w H _ hI (fun G O S => S.junk hT) (ha.at hx2 hw)⟩
theorem lc_EQ {f : τ → Int × α → Option τ} {i1 i2 : Nat} (S : Sub G O H) (h : (rQ K r).rel G v xs) (hm : folM f (enumM xs) s0 = some s1) (I : Addr → τ → Hp → Prop) (h0 : ∀ D, H D = none → I D s0 (upd H D (.lst []))) (hG : ∀ D s H, I D s H → Ext G H)
    (hs : ∀ (D : Addr) (i : Nat) (x : α) (s s' : τ), f s ((i : Int), x) = some s' → folM f ((enumM xs).drop (i + 1)) s' = some s1 → ∀ w H H', I D s H → (∀ G O, Sub G O H → Sub G O H') → r.rel G w x →
      lcTurn tt te ws σ D (PvF f (enumM xs) s1 (I D) (i + 1)) (((wipe σ ws).set i1 (some (.int (i : Int)))).set i2 (some w)) H')
    (hd : ∀ D H, I D s1 H → Q (.ref D) H) : itE K [v] H (LcW (gTup K 2 (gCons (gName i1) (gCons (gName i2) gNil))) tt te ws σ Q) := by
  obtain ⟨p, vs, rfl, hq, ha⟩ := h
  refine ⟨p, vs, rfl, ?_⟩
  rcases hq with hq | hq
  · exact .inl ⟨sqL_up S.ext hq, lc_Eit walk_enum ha hm I h0 (fun D s H hI => sqL_up (hG D s H hI) hq) hs hd⟩
  · exact .inr ⟨sqT_up S.ext hq, lc_Eit walk_enumT ha hm I h0 (fun D s H hI => sqT_up (hG D s H hI) hq) hs hd⟩
end
section
variable {α β τ : Type} {r : R β} {G H : Hp} {O : Own} {vs : List V} {D : Addr} {y : V} {b : β} {acc acc' : List β} {Nx : Hp → Prop}
theorem q_lcEl (S : Sub G ((D, .lst vs) :: O) H) (h : Al r G vs acc) (hy : r.rel G y b) (e : appM acc b = some acc') (q : ∀ H' w, Sub G ((D, .lst w) :: O) H' → Al r G w acc' → Nx H') : lcEl D Nx y H := by
  obtain ⟨c, rfl⟩ := appM_some e
  exact ⟨vs, S.head, szl (by rw [h.len]; exact c), q _ _ S.wr (h.snoc hy)⟩
end
end Mr

set_option Elab.async false
set_option linter.all false
set_option maxRecDepth 100000
/-! Mir3: chained comparisons, in. -/
namespace Mr
open PySem PySem.Spec PyProof.Rows L2
theorem ix_listK {X : Cx} {K : PySem.W.Frag} (h : X.K = K) : IxR X (rIxL K) := h ▸ ix_list
theorem ix_tupK {X : Cx} {K : PySem.W.Frag} (h : X.K = K) : IxR X (rIxT K) := h ▸ ix_tup
theorem call_lenK {X : Cx} {K : PySem.W.Frag} (h : X.K = K) : CallR X (.builtin "len") (rLenM K) := h ▸ call_lenM
theorem op_inDK {X : Cx} {K : PySem.W.Frag} (h : X.K = K) (hu : X.A.units + 65 < cLine) : OpR X (compareOp .In) (rInD K) := h ▸ op_inD hu
theorem op_notInDK {X : Cx} {K : PySem.W.Frag} (h : X.K = K) (hu : X.A.units + 65 < cLine) : OpR X (compareOp .NotIn) (rNotInD K) := h ▸ op_notInD hu
theorem op_eqDK {X : Cx} {K : PySem.W.Frag} (h : X.K = K) (hu : X.A.units + 64 < cLine) : OpR X (compareOp .Eq) (rEqD K) := h ▸ op_eqD hu
theorem op_neDK {X : Cx} {K : PySem.W.Frag} (h : X.K = K) (hu : X.A.units + 64 < cLine) : OpR X (compareOp .NotEq) (rNeD K) := h ▸ op_neD hu
theorem un65 {k : Nat} {A : Around} (r : Room k A) : A.units + 65 < cLine := by have := r.un; omega
section
variable {ta tb tc te : TE} {σ : L2.St} {H : Hp} {Q : VK} {QB : Bool → Hp → Prop}
theorem gChain {r r' : R2} (h : ta σ H fun x H1 => tb σ H1 fun y H2 => r x y H2 fun z H3 => ∃ k, z = .bl k ∧ (if k = true then tc σ H3 fun w' H4 => r' y w' H4 Q else Q (.bl false) H3)) : tChain r r' ta tb tc σ H Q := h
end
section
variable {K : PySem.W.Frag} {α : Type} [DecidableEq α] {H : Hp} {v w : V} {x : α} {xs : List α} {Q : VK}
theorem any_mem (d : RD K α) (x : α) : ∀ xs : List α, ((xs.map d.enc).any fun z => PyData.eqv z (d.enc x)) = decide (x ∈ xs)
  | [] => by simp
  | y :: ys => by
    rw [List.map_cons, List.any_cons, any_mem d x ys, d.eqv]
    by_cases h : y = x
    · subst h; simp
    · have h' : ¬ x = y := fun e => h e.symm
      simp [h, h']
theorem q_inD (d : RD K α) (hd : d.dep + 1 ≤ 64) (h1 : d.r.rel H v x) (h2 : (rM d.r).rel H w xs) (o1 : d.ok x = true) (o2 : xs.all d.ok = true) (q : Q (.bl (decide (x ∈ xs))) H) : rInD K v w H Q :=
  ⟨d.enc x, xs.map d.enc, d.dp h1, (dM d).dp h2, d.shaped (by omega) o1, (dM d).shaped hd o2, by rw [any_mem]; exact q⟩
theorem q_niD (d : RD K α) (hd : d.dep + 1 ≤ 64) (h1 : d.r.rel H v x) (h2 : (rM d.r).rel H w xs) (o1 : d.ok x = true) (o2 : xs.all d.ok = true) (q : Q (.bl (!decide (x ∈ xs))) H) : rNotInD K v w H Q :=
  ⟨d.enc x, xs.map d.enc, d.dp h1, (dM d).dp h2, d.shaped (by omega) o1, (dM d).shaped hd o2, by rw [any_mem]; exact q⟩
end
/-! ### while -/
def PvW {σ ρ : Type} (f : σ → Option (Bf σ ρ)) (res : Fl σ ρ) (I : σ → L2.St → Hp → Prop) (n : Nat) : L2.St → Hp → Prop := fun σ' H => ∃ s, I s σ' H ∧ whL f n s = some res
theorem lp_W {τ ρ : Type} {f : τ → Option (Bf τ ρ)} {N : Nat} {s0 : τ} {res : Fl τ ρ} {c : TT} {tb : TS} {D : Ends} {σ : L2.St} {H : Hp} (hm : whL f N s0 = some res) (I : τ → L2.St → Hp → Prop) (h0 : I s0 σ H)
    (hs : ∀ (n : Nat) (s : τ) (b : Bf τ ρ), f s = some b → conW f n b = some res → ∀ σ H, I s σ H →
      c σ H fun t H1 => if t = true then ∃ N : L2.St → Hp → Prop, (∀ σ' H', N σ' H' → ∃ m', m' < n + 1 ∧ PvW f res I m' σ' H') ∧ tb { D with nx := N, ct := N, bk := D.nx } σ H1 else D.nx σ H1) : tWhile c tb D σ H := by
  refine ⟨fun m => PvW f res I m, ⟨N, s0, h0, hm⟩, fun m σ H hW => ?_⟩
  obtain ⟨s, hI, hf⟩ := hW
  cases m with
  | zero => cases hf
  | succ n =>
    rw [whL_succ] at hf
    obtain ⟨b, hb, hc⟩ := bindS hf
    exact hs n s b hb hc σ H hI
theorem whGo {τ ρ : Type} {f : τ → Option (Bf τ ρ)} {res : Fl τ ρ} {I : τ → L2.St → Hp → Prop} {n : Nat} {tb : TS} {D : Ends} {σ : L2.St} {H1 : Hp} (h : tb { D with nx := PvW f res I n, ct := PvW f res I n, bk := D.nx } σ H1) :
    ∃ N : L2.St → Hp → Prop, (∀ σ' H', N σ' H' → ∃ m', m' < n + 1 ∧ PvW f res I m' σ' H') ∧ tb { D with nx := N, ct := N, bk := D.nx } σ H1 := ⟨_, fun _ _ h => ⟨n, Nat.lt_succ_self n, h⟩, h⟩
/-! ### in a tuple of ints -/
theorem inV_ints (x : Int) : ∀ (as : List Int), inV (.int x) (as.map V.int) = decide (x ∈ as)
  | [] => by simp [inV]
  | a :: as => by
    have ih := inV_ints x as
    unfold inV at ih ⊢
    rw [List.map_cons, List.any_cons, ih]
    have e : eqV (V.int a) (V.int x) = decide (a = x) := rfl
    rw [e]
    by_cases h : a = x
    · subst h; simp
    · have h' : ¬ x = a := fun q => h q.symm
      simp [h, h']
theorem flat_ints : ∀ (as : List Int), (as.map V.int).all flatV = true
  | [] => rfl
  | a :: as => by rw [List.map_cons, List.all_cons, flat_ints as]; rfl
theorem q_inT {K : PySem.W.Frag} {H : Hp} {x : Int} {p : Addr} {Q : VK} (as : List Int) (q : Q (.bl (decide (x ∈ as))) (upd H p (.tup (as.map V.int)))) : rIn K false (.int x) (.ref p) (upd H p (.tup (as.map V.int))) Q :=
  ⟨p, as.map V.int, rfl, .inr (.inl (.inl upd_same)), rfl, flat_ints as, by show Q (.bl (inV (.int x) (as.map V.int))) _; rw [inV_ints]; exact q⟩
/-! ### for over a list or a tuple -/
def iQ (K : PySem.W.Frag) (tl : TE) : TI := fun σ H R => tl σ H fun x H1 => ∃ a, x = .ref a ∧ (((∃ xs, SqL K H1 a xs) ∧ R (Itl K a) H1) ∨ ((∃ xs, SqT K H1 a xs) ∧ R (Itt K a) H1))
theorem pi_Q {X : Cx} {tg l : Expr} {tl : TE} (hl : PE X l tl) : PI X tg l (iQ X.K tl) := by
  refine ⟨fun pins s σ H R I h => ?_⟩
  refine thn (hl.run pins s σ H _ I h) fun v s1 ⟨x, H1, I1, r1, a, e, q1⟩ => ?_
  subst e
  cases r1
  have fr : ∀ b ∈ [s1.heap.objs.size], b = s1.heap.objs.size := fun b hb => by simpa using hb
  rcases q1 with ⟨⟨xs, hq⟩, q⟩ | ⟨⟨xs, hq⟩, q⟩
  · obtain ⟨its, rv, p, hz⟩ := I1.list hq
    exact wpAny_pyIter_list p.isList ⟨s1.heap.objs.size, [s1.heap.objs.size], _, _, H1, rfl, I1.kept (t' := s1.toks) fun b o e => Heap.get?_push_of_some _ e, turn_list a _, ⟨_, Heap.get?_push_size _ rfl, rfl, rfl⟩, fun b hb => by rw [fr b hb]; exact I1.fpOk (Nat.le_refl _) (I1.hok.fresh (Nat.le_refl _)), q⟩
  · obtain ⟨its, rv, p, hz⟩ := I1.tuple hq
    exact wpAny_pyIter_tuple (show s1.heap.IsTuple a its.toArray from p) ⟨s1.heap.objs.size, [s1.heap.objs.size], _, _, H1, rfl, I1.kept (t' := s1.toks) fun b o e => Heap.get?_push_of_some _ e, turn_tuple a _, ⟨_, Heap.get?_push_size _ rfl, rfl, rfl⟩, fun b hb => by rw [fr b hb]; exact I1.fpOk (Nat.le_refl _) (I1.hok.fresh (Nat.le_refl _)), q⟩
def itQ (K : PySem.W.Frag) (x : V) (H : Hp) (RI : It → Hp → Prop) : Prop := ∃ a, x = .ref a ∧ (((∃ xs, SqL K H a xs) ∧ RI (Itl K a) H) ∨ ((∃ xs, SqT K H a xs) ∧ RI (Itt K a) H))
theorem gIQ {K : PySem.W.Frag} {te : TE} {σ : L2.St} {H : Hp} {RI : It → Hp → Prop} (h : te σ H fun x H1 => itQ K x H1 RI) : iQ K te σ H RI := h
theorem lp_Q {α τ ρ : Type} {f : τ → α → Option (Bf τ ρ)} {xs : List α} {s0 : τ} {res : Fl τ ρ} {g : TG} {tb : TS} {D : Ends} {σ : L2.St} {H G : Hp} {K : PySem.W.Frag} {O : Own} {r : R α} {v : V} (S : Sub G O H) (h : (rQ K r).rel G v xs) (hm : forL f xs s0 = some res) (I : τ → L2.St → Hp → Prop) (h0 : I s0 σ H) (hG : ∀ s σ H, I s σ H → Ext G H)
    (hs : ∀ (i : Nat) (x : α) (s : τ) (b : Bf τ ρ), f s x = some b → conL f (xs.drop (i + 1)) b = some res → ∀ w σ H, I s σ H → r.rel G w x →
      g w σ H fun σ2 H2 => tb { D with nx := PvL f xs res I (i + 1), ct := PvL f xs res I (i + 1), bk := D.nx } σ2 H2)
    (hd : ∀ s σ H, res = .nx s → I s σ H → D.nx σ H) :
    itQ K v H (LpW g tb D σ) := by
  obtain ⟨p, vs, rfl, hq, ha⟩ := h
  rcases hq with hq | hq
  · obtain ⟨a, e, h1, h2⟩ := lp_L S ⟨p, vs, rfl, hq, ha⟩ hm I h0 hG hs hd
    exact ⟨a, e, .inl ⟨h1, h2⟩⟩
  · obtain ⟨a, e, h1, h2⟩ := lp_T S ⟨p, vs, rfl, hq, ha⟩ hm I h0 hG hs hd
    exact ⟨a, e, .inr ⟨h1, h2⟩⟩
/-! ### all, any of a list of bools -/
theorem q_all {K : PySem.W.Frag} {G H : Hp} {O : Own} {v : V} {xs : List Bool} {Q : VK} (S : Sub G O H) (h : (rM rBool).rel G v xs) (q : Q (.bl (xs.all id)) H) : rAll K [v] H Q := by
  obtain ⟨p, vs, rfl, hs, ha⟩ := h
  exact ⟨p, xs, rfl, by rw [← ha.sc]; exact .inl (.inl (S.ext _ _ hs)), q⟩
theorem q_any {K : PySem.W.Frag} {G H : Hp} {O : Own} {v : V} {xs : List Bool} {Q : VK} (S : Sub G O H) (h : (rM rBool).rel G v xs) (q : Q (.bl (xs.any id)) H) : rAny K [v] H Q := by
  obtain ⟨p, vs, rfl, hs, ha⟩ := h
  exact ⟨p, xs, rfl, by rw [← ha.sc]; exact .inl (.inl (S.ext _ _ hs)), q⟩
end Mr

set_option Elab.async false
set_option linter.all false
set_option maxRecDepth 100000
set_option maxHeartbeats 2000000
/-! Mir4: slices of owned lists, xs[::-1], max(xs), is None, is of bools, properties. -/
namespace Mr
open PySem PySem.Spec PyProof.Rows L2
section
variable {α β γ δ : Type} {r : R α} {G G' H : Hp} {O : Own} {K : PySem.W.Frag} {v w : V} {vs : List V} {x : α} {xs ys : List α} {a : Addr} {Q : VK} {σ : L2.St}
theorem Al.rev : ∀ {vs : List V} {xs : List α}, Al r G vs xs → Al r G vs.reverse xs.reverse
  | [], [], _ => True.intro
  | v :: vs, x :: xs, h => by
    rw [List.reverse_cons, List.reverse_cons]
    exact (Al.rev h.2).app ⟨h.1, True.intro⟩
  | [], _ :: _, h => h.elim
  | _ :: _, [], h => h.elim
theorem q_slO {lo hi : Option Int} (S : Sub G ((a, .lst vs) :: O) H) (h : Al r G vs xs) (q : ∀ w G' H', Ext G G' → Sub G' ((a, .lst vs) :: O) H' → (rM r).rel G' w (cutM xs lo hi) → Q w H') : rSlL K (.ref a) lo hi H Q := by
  refine ⟨a, vs, rfl, .inl (.inl S.head), fun t ht => q _ _ _ (S.extNew ht (.lst (cutV vs lo hi))) (S.new ht) ⟨t, _, rfl, upd_same, ?_⟩⟩
  exact (h.up (S.extNew ht _)).cut
/-- an owned list is lent -/
theorem Sub.thaw {G2 H2 : Hp} {o : HO} (S : Sub G ((a, o) :: O) H) (e : Ext (upd G a o) G2) (S2 : Sub G2 O H2) : Sub G ((a, o) :: O) H2 := by
  have h0 : Ext G G2 := S.extFrz.trans e
  refine ⟨h0.trans S2.ext, fun q hq => ?_, S.nd, S.nt⟩
  rcases List.mem_cons.mp hq with rfl | hq
  · exact ⟨S2.ext _ _ (e _ _ upd_same), S.ghead⟩
  · obtain ⟨h1, h2⟩ := S2.own q hq
    refine ⟨h1, ?_⟩
    cases hg : G q.1 with
    | none => rfl
    | some u => rw [h0 _ _ hg] at h2; cases h2
theorem rM_lent (S : Sub G ((a, .lst vs) :: O) H) (h : Al r G vs xs) : (rM r).rel (upd G a (.lst vs)) (.ref a) xs := ⟨a, vs, rfl, upd_same, h.up S.extFrz⟩
def mkRev (K : PySem.W.Frag) (x : V) (H1 : Hp) (Q : VK) : Prop := ∃ a xs, x = .ref a ∧ SqL K H1 a xs ∧ ∀ p, H1 p = none → Q (.ref p) (upd H1 p (.lst xs.reverse))
theorem pe_revLK {X : Cx} {K : PySem.W.Frag} {e : Expr} {te : TE} {k : Nat} {p1 p2 p3 pos : Pos} (h : X.K = K) (he : PE X e te) : PE X (.Subscript e (.Slice none none (some (.UnaryOp .USub (.Constant (.int 1) k p1) p2)) p3) pos) (tRevL K te) := h ▸ pe_revL he
theorem gRevL {te : TE} (h : te σ H fun x H1 => mkRev K x H1 Q) : tRevL K te σ H Q := h
theorem q_rev (S : Sub G O H) (h : (rL K r).rel G v xs) (q : ∀ w G' H', Ext G G' → Sub G' O H' → (rM r).rel G' w xs.reverse → Q w H') : mkRev K v H Q := by
  obtain ⟨p, vs, rfl, hs, ha⟩ := h
  exact ⟨p, vs, rfl, sqL_up S.ext hs, fun t ht => q _ _ _ (S.extNew ht _) (S.new ht) ⟨t, _, rfl, upd_same, (ha.up (S.extNew ht _)).rev⟩⟩
theorem q_revO (S : Sub G ((a, .lst vs) :: O) H) (h : Al r G vs xs) (q : ∀ w G' H', Ext G G' → Sub G' ((a, .lst vs) :: O) H' → (rM r).rel G' w xs.reverse → Q w H') : mkRev K (.ref a) H Q :=
  ⟨a, vs, rfl, .inl (.inl S.head), fun t ht => q _ _ _ (S.extNew ht _) (S.new ht) ⟨t, _, rfl, upd_same, (h.up (S.extNew ht _)).rev⟩⟩
theorem q_max {ns : List Int} {m : Int} (S : Sub G O H) (h : (rL K rInt).rel G v ns) (hm : maxM ns = some m) (q : Q (.int m) H) : rMax K [v] H Q := by
  obtain ⟨p, vs, rfl, hs, ha⟩ := h
  have hv := Al.sc ha
  subst hv
  obtain ⟨h1, h2, h3⟩ := maxM_some hm
  refine ⟨p, ns, rfl, sqL_up S.ext hs, h3, fun m' h1' h2' => ?_⟩
  rw [max_uniq ⟨h1', h2'⟩ ⟨h1, h2⟩]; exact q
theorem gProp {C : Addr} {sp : Sp} {dvs : List V} {E : XK} {ta : TE} (h : ta σ H fun x H1 => ∃ a dx fs, x = .ref a ∧ H1 a = some (.ins C dx fs) ∧ sp (.ref a :: dvs) H1 Q E) : tProp C sp dvs E ta σ H Q := h
end
/-! ### conversions of nested data -/
section
variable {α : Type} {r r' : R α} {K : PySem.W.Frag} {G : Hp} {v : V} {xs : List α}
theorem Al.imp (f : ∀ v x, r.rel G v x → r'.rel G v x) : ∀ {vs : List V} {xs : List α}, Al r G vs xs → Al r' G vs xs
  | [], [], _ => True.intro
  | _ :: _, _ :: _, h => ⟨f _ _ h.1, Al.imp f h.2⟩
  | [], _ :: _, h => h.elim
  | _ :: _, [], h => h.elim
theorem cv_MQ (f : ∀ v x, r.rel G v x → r'.rel G v x) (h : (rM r).rel G v xs) : (rQ K r').rel G v xs := let ⟨p, vs, e, h, ha⟩ := h; ⟨p, vs, e, .inl (.inl (.inl h)), ha.imp f⟩
theorem cv_LQ (f : ∀ v x, r.rel G v x → r'.rel G v x) (h : (rL K r).rel G v xs) : (rQ K r').rel G v xs := let ⟨p, vs, e, h, ha⟩ := h; ⟨p, vs, e, .inl h, ha.imp f⟩
theorem cv_TQ (f : ∀ v x, r.rel G v x → r'.rel G v x) (h : (rT K r).rel G v xs) : (rQ K r').rel G v xs := let ⟨p, vs, e, h, ha⟩ := h; ⟨p, vs, e, .inr h, ha.imp f⟩
theorem cv_QQ (f : ∀ v x, r.rel G v x → r'.rel G v x) (h : (rQ K r).rel G v xs) : (rQ K r').rel G v xs := let ⟨p, vs, e, h, ha⟩ := h; ⟨p, vs, e, h, ha.imp f⟩
theorem cv_ML (f : ∀ v x, r.rel G v x → r'.rel G v x) (h : (rM r).rel G v xs) : (rL K r').rel G v xs := let ⟨p, vs, e, h, ha⟩ := h; ⟨p, vs, e, .inl (.inl h), ha.imp f⟩
theorem cv_LL (f : ∀ v x, r.rel G v x → r'.rel G v x) (h : (rL K r).rel G v xs) : (rL K r').rel G v xs := let ⟨p, vs, e, h, ha⟩ := h; ⟨p, vs, e, h, ha.imp f⟩
end
end Mr

set_option Elab.async false
set_option linter.all false
set_option maxRecDepth 100000
set_option maxHeartbeats 1000000
/-! GenFr: code that is run leaves the generators that sleep as they are, if it runs well where none of them can be woken. -/
namespace GFr
open PySem
open Sem (wp)
/-- one that sleeps and can't be woken; it looks the same -/
def stk : GenState → GenState
  | .suspended _ l c p fs cl => .suspended (fun _ => .unsupported "asleep") l c p fs cl
  | x => x
def isSus : GenState → Bool
  | .suspended .. => true
  | _ => false
abbrev nog (fs : List Frame) : Prop := splitAtGen fs = none
def nogS : GenState → Prop
  | .suspended _ _ _ _ fs _ => nog fs
  | _ => True
def nogE : End → Prop
  | .susp _ _ _ _ _ _ fs => nog fs
  | _ => True
theorem nog_ret {k h g l c p kp fs} (x : nog (.ret k h g l c p kp :: fs)) : nog fs := by
  have y : (splitAtGen fs).map _ = none := x
  exact Option.map_eq_none_iff.mp y
theorem nog_cons {k h g l c p kp fs} (x : nog fs) : nog (.ret k h g l c p kp :: fs) := by
  show (splitAtGen fs).map _ = none
  rw [show splitAtGen fs = none from x]; rfl
theorem nog_app : ∀ {a b : List Frame}, nog a → nog b → nog (a ++ b)
  | [], _, _, h => h
  | .ret .. :: a, b, h1, h2 => nog_cons (nog_app (nog_ret h1) h2)
  | .gen .. :: a, b, h1, _ => by cases (show some _ = none from h1)
theorem seen_stk (x : GenState) : (stk x).seen = x.seen := by cases x <;> rfl
theorem bare_stk (x : GenState) : (stk x).bare = x.bare := by cases x <;> rfl
theorem nogS_gen {e : End} (h : nogE e) : nogS e.genState := by
  cases e with
  | ret r => exact True.intro
  | susp v g l k c p fs => exact h
abbrev Pt := Nat → Option GenState
def pat (P : Pt) (s : Shared) : Shared := { s with gens := s.gens.mapIdx fun j x => (P j).getD x }
structure Ok (P : Pt) (s : Shared) : Prop where
  st : ∀ j gs, P j = some gs → isSus gs = true ∧ s.gens[j]? = some (stk gs)
  fr : ∀ j x, P j = none → s.gens[j]? = some x → nogS x
section
variable {P : Pt} {s : Shared} {g : Nat} {x : GenState}
theorem pat_get : (pat P s).gens[g]? = (s.gens[g]?).map fun x => (P g).getD x := by
  simp [pat]
theorem Ok.none_of (o : Ok P s) (h : s.gens[g]? = some x) (hx : isSus x = false) : P g = none := by
  cases e : P g with
  | none => rfl
  | some gs =>
    obtain ⟨h1, h2⟩ := o.st g gs e
    rw [h] at h2
    cases gs <;> simp_all [isSus, stk]
theorem pat_at (hp : P g = none) (h : s.gens[g]? = some x) : (pat P s).gens[g]? = some x := by
  rw [pat_get, h, hp]; rfl
theorem pat_set (hp : P g = none) : (pat P s).setGen g x = pat P (s.setGen g x) := by
  unfold pat Shared.setGen
  congr 1
  refine Array.ext_getElem? fun j => ?_
  simp only [Array.getElem?_setIfInBounds, Array.getElem?_mapIdx, Array.size_mapIdx]
  by_cases hj : g = j
  · subst hj
    by_cases hl : g < s.gens.size
    · simp [hl, hp]
    · simp [hl]
  · simp [hj]
theorem Ok.set (o : Ok P s) (hp : P g = none) (hx : nogS x) : Ok P (s.setGen g x) := by
  refine ⟨fun j gs e => ?_, fun j y e h => ?_⟩
  · obtain ⟨h1, h2⟩ := o.st j gs e
    refine ⟨h1, ?_⟩
    have hj : g ≠ j := fun z => by rw [z, e] at hp; cases hp
    simp only [Shared.setGen, Array.getElem?_setIfInBounds, hj, if_false]
    exact h2
  · simp only [Shared.setGen, Array.getElem?_setIfInBounds] at h
    by_cases hj : g = j
    · subst hj
      rw [if_pos rfl] at h
      split at h
      · cases h; exact hx
      · cases h
    · rw [if_neg hj] at h
      exact o.fr j y e h
theorem Ok.free (o : Ok P s) : P s.gens.size = none := by
  cases e : P s.gens.size with
  | none => rfl
  | some gs =>
    obtain ⟨_, h2⟩ := o.st _ gs e
    simp at h2
theorem pat_push (o : Ok P s) {c : Code} : pat P { s with gens := s.gens.push (.fresh c) } = { pat P s with gens := (pat P s).gens.push (.fresh c) } := by
  have hf := o.free
  unfold pat
  congr 1
  refine Array.ext_getElem? fun j => ?_
  simp only [Array.getElem?_mapIdx, Array.getElem?_push, Array.size_mapIdx]
  by_cases hj : j = s.gens.size
  · subst hj; simp [hf]
  · simp [hj]
theorem pat_size : (pat P s).gens.size = s.gens.size := by simp [pat]
theorem Ok.push (o : Ok P s) {c : Code} : Ok P { s with gens := s.gens.push (.fresh c) } := by
  refine ⟨fun j gs e => ?_, fun j y e h => ?_⟩
  · obtain ⟨h1, h2⟩ := o.st j gs e
    refine ⟨h1, ?_⟩
    have hl : j < s.gens.size := (Array.getElem?_eq_some_iff.mp h2).1
    simp only [Array.getElem?_push]
    rw [if_neg (Nat.ne_of_lt hl)]; exact h2
  · simp only [Array.getElem?_push] at h
    split at h
    · cases h; exact True.intro
    · exact o.fr j y e h
end
theorem no_unsup {M : Model} {Γ : Ctx} {p : Pos} {w : String} {fs : List Frame} {s s' : Shared} {e : End} (h : Runs M Γ p (.unsupported w) fs s e s') : False := by
  generalize ht : (Sem.unsupported w : Sem PySem.Fin) = t at h
  induction h <;> first | (cases ht; done) | (subst ht; simp_all)
theorem gs_step {M : Model} {P : Pt} {Γ : Ctx} {p : Pos} {s s' : Shared} {e : End} {g : Nat} {st : GenState} {k : GenStatus × Option (List (Code × Pos)) → Sem PySem.Fin} (o : Ok P s) (hg : s.gens[g]? = some st)
    (c : Runs M Γ p (k st.seen) [] (pat P s) e (pat P s')) : Runs M Γ p (.genState g k) [] (pat P s) e (pat P s') := by
  cases hp : P g with
  | none => exact .genState (pat_at hp hg) c
  | some gs =>
    obtain ⟨_, h2⟩ := o.st g gs hp
    rw [hg] at h2
    cases h2
    rw [seen_stk] at c
    exact .genState (by rw [pat_get, hg, hp]; rfl) c
theorem sim {M : Model} {P : Pt} {Γ : Ctx} {p : Pos} {t : Sem PySem.Fin} {fs : List Frame} {s s' : Shared} {e : End} (h : Runs M Γ p t fs s e s') :
    Ok P s → nog fs → Ok P s' ∧ nogE e ∧ Runs M Γ p t fs (pat P s) e (pat P s') := by
  induction h with
  | done => exact fun o _ => ⟨o, True.intro, .done⟩
  | raise => exact fun o _ => ⟨o, True.intro, .raise⟩
  | again hq _ ih => exact fun o n => let ⟨a, b, c⟩ := ih o n; ⟨a, b, .again hq c⟩
  | rule _ ih => exact fun o n => let ⟨a, b, c⟩ := ih o n; ⟨a, b, .rule c⟩
  | «at» _ ih => exact fun o n => let ⟨a, b, c⟩ := ih o n; ⟨a, b, .at c⟩
  | load ho _ ih => exact fun o n => let ⟨a, b, c⟩ := ih o n; ⟨a, b, .load ho c⟩
  | update ho _ ih => exact fun o n => let ⟨a, b, c⟩ := ih ⟨o.st, o.fr⟩ n; ⟨a, b, .update ho c⟩
  | loadIfAlive _ ih => exact fun o n => let ⟨a, b, c⟩ := ih o n; ⟨a, b, .loadIfAlive c⟩
  | point _ ih => exact fun o n => let ⟨a, b, c⟩ := ih o n; ⟨a, b, .point c⟩
  | alloc _ ih => exact fun o n => let ⟨a, b, c⟩ := ih ⟨o.st, o.fr⟩ n; ⟨a, b, .alloc c⟩
  | fresh _ ih => exact fun o n => let ⟨a, b, c⟩ := ih ⟨o.st, o.fr⟩ n; ⟨a, b, .fresh c⟩
  | ask _ ih => exact fun o n => let ⟨a, b, c⟩ := ih o n; ⟨a, b, .ask c⟩
  | choose hn _ ih => exact fun o n => let ⟨a, b, c⟩ := ih ⟨o.st, o.fr⟩ n; ⟨a, b, .choose hn c⟩
  | os _ ih => exact fun o n => let ⟨a, b, c⟩ := ih ⟨o.st, o.fr⟩ n; ⟨a, b, .os c⟩
  | handled _ ih => exact fun o n => let ⟨a, b, c⟩ := ih o n; ⟨a, b, .handled c⟩
  | genState hg _ ih =>
    intro o n
    obtain ⟨a, b, c⟩ := ih o n
    refine ⟨a, b, ?_⟩
    exact gs_step o hg c
  | stack _ ih => exact fun o n => let ⟨a, b, c⟩ := ih o n; ⟨a, b, .stack c⟩
  | thread _ ih => exact fun o n => let ⟨a, b, c⟩ := ih o n; ⟨a, b, .thread c⟩
  | newGen _ ih =>
    intro o n
    obtain ⟨a, b, c⟩ := ih o.push n
    rw [pat_push o] at c
    refine ⟨a, b, .newGen ?_⟩
    rw [pat_size]; exact c
  | call _ _ ih1 ih2 =>
    intro o n
    obtain ⟨a, _, c⟩ := ih1 o rfl
    obtain ⟨a2, b2, c2⟩ := ih2 a n
    exact ⟨a2, b2, .call c c2⟩
  | callSusp _ ih =>
    intro o n
    obtain ⟨a, b, c⟩ := ih o rfl
    exact ⟨a, nog_app b (nog_cons rfl), .callSusp c⟩
  | yield => exact fun o _ => ⟨o, rfl, .yield⟩
  | resumeFresh hg _ hq _ ih1 ih2 =>
    intro o n
    have hp := o.none_of hg rfl
    obtain ⟨a, b, c⟩ := ih1 (o.set hp True.intro) rfl
    obtain ⟨a2, b2, c2⟩ := ih2 (a.set hp (nogS_gen b)) n
    rw [← pat_set hp] at c c2
    exact ⟨a2, b2, .resumeFresh (pat_at hp hg) c hq c2⟩
  | @resumeSuspended Γ p g r l k s k₀ l₀ c₀ p₀ fs cl e₁ s₁ e s' hg h1 hq _ ih1 ih2 =>
    intro o n
    cases hp : P g with
    | none =>
      have hn : nog fs := o.fr g _ hp hg
      obtain ⟨a, b, c⟩ := ih1 (o.set hp True.intro) hn
      obtain ⟨a2, b2, c2⟩ := ih2 (a.set hp (nogS_gen b)) n
      rw [← pat_set hp] at c c2
      exact ⟨a2, b2, .resumeSuspended (pat_at hp hg) c hq c2⟩
    | some gs =>
      obtain ⟨h3, h2⟩ := o.st g gs hp
      rw [hg] at h2
      cases gs with
      | suspended k1 l1 c1 p1 fs1 cl1 =>
        have e := Option.some.inj h2
        injection e with e1
        rw [e1] at h1
        exact (no_unsup h1).elim
      | _ => cases h3
  | resumeJustStarted hg hv _ ih =>
    intro o n
    obtain ⟨a, b, c⟩ := ih o n
    exact ⟨a, b, .resumeJustStarted (pat_at (o.none_of hg rfl) hg) hv c⟩
  | resumeThrowFresh hg _ ih =>
    intro o n
    have hp := o.none_of hg rfl
    obtain ⟨a, b, c⟩ := ih (o.set hp True.intro) n
    rw [← pat_set hp] at c
    exact ⟨a, b, .resumeThrowFresh (pat_at hp hg) c⟩
  | resumeRunning hg _ ih =>
    intro o n
    obtain ⟨a, b, c⟩ := ih o n
    exact ⟨a, b, .resumeRunning (pat_at (o.none_of hg rfl) hg) c⟩
  | resumeFinished hg _ ih =>
    intro o n
    obtain ⟨a, b, c⟩ := ih o n
    exact ⟨a, b, .resumeFinished (pat_at (o.none_of hg rfl) hg) c⟩
  | segRet _ _ ih1 ih2 =>
    intro o n
    obtain ⟨a, _, c⟩ := ih1 o rfl
    obtain ⟨a2, b2, c2⟩ := ih2 a (nog_ret n)
    exact ⟨a2, b2, .segRet c c2⟩
  | segGen => exact fun _ n => by cases (show some _ = none from n)
  | segSuspOut hs _ ih =>
    intro o n
    obtain ⟨a, b, c⟩ := ih o rfl
    exact ⟨a, nog_app b n, .segSuspOut hs c⟩
  | segSuspGen hs => exact fun _ n => by rw [show splitAtGen _ = none from n] at hs; cases hs
/-- the same of what is wanted behind a term -/
theorem wp_fr {α : Type} (M : Model) (Γ : Ctx) (P : Pt) (t : Sem α) : ∀ (Q : α → Pos → Shared → Prop) (E : Value → Pos → Shared → Prop) (p : Pos) (s : Shared), Ok P s → wp M Γ t Q E p s →
    wp M Γ t (fun a p' s' => ∃ z, Ok P z ∧ s' = pat P z ∧ Q a p' z) (fun x p' s' => ∃ z, Ok P z ∧ s' = pat P z ∧ E x p' z) p (pat P s) := by
  induction t with
  | pure a => exact fun Q E p s o h => ⟨s, o, rfl, h⟩
  | raise e => exact fun Q E p s o h => ⟨s, o, rfl, h⟩
  | unsupported _ => exact fun Q E p s _ h => h
  | finish _ => exact fun Q E p s _ h => h
  | rule _ k ih => exact fun Q E p s o h => ih () Q E p s o h
  | «at» p' k ih => exact fun Q E p s o h => ih () Q E p' s o h
  | load a _ k ih => exact fun Q E p s o ⟨ob, ho, h⟩ => ⟨ob, ho, ih ob Q E p s o h⟩
  | update a _ f k ih => exact fun Q E p s o h => ⟨h.1, ih () Q E p { s with heap := s.heap.update a f } ⟨o.st, o.fr⟩ h.2⟩
  | loadIfAlive a k ih => exact fun Q E p s o h => ih _ Q E p s o h
  | point _ k ih => exact fun Q E p s o h => ih () Q E p s o h
  | register _ _ => exact fun Q E p s _ h => h
  | alloc ob k ih => exact fun Q E p s o h => ih s.heap.objs.size Q E p { s with heap := s.heap.push ob } ⟨o.st, o.fr⟩ h
  | fresh k ih => exact fun Q E p s o h => ih s.toks Q E p { s with toks := s.toks + 1 } ⟨o.st, o.fr⟩ h
  | ask k ih => exact fun Q E p s o h => ih _ Q E p s o h
  | choose src m k ih => exact fun Q E p s o h => ⟨h.1, ih (M.w.draws src (s.drawn.get src) % m) Q E p { s with drawn := s.drawn.bump src } ⟨o.st, o.fr⟩ h.2⟩
  | os q _ k ih => exact fun Q E p s o h => ih (Os.step s.os q).2 Q E p { s with os := (Os.step s.os q).1 } ⟨o.st, o.fr⟩ h
  | call c hd _ _ k ih =>
    intro Q E p s o h
    obtain ⟨r, s', hr, h⟩ := h
    obtain ⟨a, _, c'⟩ := sim hr o rfl
    exact ⟨r, pat P s', c', ih r Q E p s' a h⟩
  | handled own k ih => exact fun Q E p s o h => ih _ Q E p s o h
  | genState g k ih =>
    intro Q E p s o h
    obtain ⟨st, hs, h⟩ := h
    have h' := ih _ Q E p s o h
    cases hp : P g with
    | none => exact ⟨st, pat_at hp hs, h'⟩
    | some gs =>
      obtain ⟨_, h2⟩ := o.st g gs hp
      rw [hs] at h2
      cases h2
      rw [seen_stk] at h'
      exact ⟨gs, by rw [pat_get, hs, hp]; rfl, h'⟩
  | newGen c k ih =>
    intro Q E p s o h
    have h' := ih _ Q E p _ o.push h
    rw [pat_push o] at h'
    show wp M Γ (k (pat P s).gens.size) _ _ p _
    rw [pat_size]; exact h'
  | resume g r _ k ih =>
    intro Q E p s o h
    obtain ⟨res, s', hw, h⟩ := h
    suffices x : Ok P s' ∧ Wakes M Γ p g r (pat P s) res (pat P s') from ⟨res, pat P s', x.2, ih res Q E p s' x.1 h⟩
    cases hg : s.gens[g]? with
    | none =>
      unfold Wakes at hw
      rw [hg] at hw
      exact hw.elim
    | some st =>
      unfold Wakes at hw ⊢
      rw [hg] at hw
      cases st with
      | fresh c =>
        have hp := o.none_of hg rfl
        rw [pat_at hp hg]
        dsimp only at hw ⊢
        split at hw
        · obtain ⟨e₁, s₁, hr, hq, h1, rfl⟩ := hw
          obtain ⟨a, b, c'⟩ := sim hr (o.set hp True.intro) rfl
          rw [← pat_set hp] at c'
          exact ⟨a.set hp (nogS_gen b), e₁, _, c', hq, h1, (pat_set hp).symm⟩
        · obtain ⟨h1, rfl⟩ := hw
          exact ⟨o, h1, rfl⟩
        · obtain ⟨h1, rfl⟩ := hw
          exact ⟨o.set hp True.intro, h1, (pat_set hp).symm⟩
      | suspended k₀ l₀ c₀ p₀ fs cl =>
        cases hp : P g with
        | none =>
          rw [pat_at hp hg]
          dsimp only at hw ⊢
          obtain ⟨e₁, s₁, hr, hq, h1, rfl⟩ := hw
          obtain ⟨a, b, c'⟩ := sim hr (o.set hp True.intro) (o.fr g _ hp hg)
          rw [← pat_set hp] at c'
          exact ⟨a.set hp (nogS_gen b), e₁, _, c', hq, h1, (pat_set hp).symm⟩
        | some gs =>
          obtain ⟨h3, h2⟩ := o.st g gs hp
          rw [hg] at h2
          obtain ⟨e₁, s₁, hr, _⟩ := hw
          cases gs with
          | suspended k1 l1 c1 p1 fs1 cl1 =>
            have e := Option.some.inj h2
            injection e with e1
            rw [e1] at hr
            exact (no_unsup hr).elim
          | _ => cases h3
      | running =>
        rw [pat_at (o.none_of hg rfl) hg]
        dsimp only at hw ⊢
        obtain ⟨h1, rfl⟩ := hw
        exact ⟨o, h1, rfl⟩
      | finished =>
        rw [pat_at (o.none_of hg rfl) hg]
        dsimp only at hw ⊢
        obtain ⟨h1, rfl⟩ := hw
        exact ⟨o, h1, rfl⟩
  | yield _ _ _ _ => exact fun Q E p s _ h => h
  | stack k ih => exact fun Q E p s o h => ih _ Q E p s o h
  | fork _ _ => exact fun Q E p s _ h => h
  | thread k ih => exact fun Q E p s o h => ih _ Q E p s o h
  | await _ _ _ _ _ => exact fun Q E p s _ h => h
/-- all that sleep, so that they can't be woken -/
def calmS (s : Shared) : Shared := { s with gens := s.gens.map stk }
def calmP (s : Shared) : Pt := fun j => match s.gens[j]? with
  | some gs => if isSus gs = true then some gs else none
  | none => none
theorem calm_ok (s : Shared) : Ok (calmP s) (calmS s) := by
  refine ⟨fun j gs e => ?_, fun j x e h => ?_⟩
  · unfold calmP at e
    split at e
    · rename_i g hg
      split at e
      · rename_i hs
        cases e
        exact ⟨hs, by simp [calmS, hg]⟩
      · cases e
    · cases e
  · unfold calmP at e
    simp only [calmS, Array.getElem?_map] at h
    cases hg : s.gens[j]? with
    | none => rw [hg] at h; cases h
    | some g =>
      rw [hg] at h e
      cases h
      cases g with
      | suspended => cases e
      | _ => exact True.intro
theorem calm_pat (s : Shared) : pat (calmP s) (calmS s) = s := by
  obtain ⟨h, g, d, t, o⟩ := s
  unfold pat calmS
  congr 1
  refine Array.ext_getElem? fun j => ?_
  simp only [Array.getElem?_mapIdx, Array.getElem?_map]
  cases hg : g[j]? with
  | none => rfl
  | some x =>
    cases x <;> simp [calmP, hg, isSus, stk]
/-- the frame: code that runs well where nothing that sleeps can be woken leaves all that sleeps as it is -/
theorem frame {α : Type} {M : Model} {A : Around} {t : Sem α} {Q : α → Shared → Prop} {E : Value → Shared → Prop} {s : Shared} (h : wpAny M A t Q E (calmS s)) :
    wpAny M A t (fun a s' => ∃ z, Ok (calmP s) z ∧ s' = pat (calmP s) z ∧ Q a z) (fun x s' => ∃ z, Ok (calmP s) z ∧ s' = pat (calmP s) z ∧ E x z) s := fun Γ p hΓ => by
  have := wp_fr M Γ (calmP s) t _ _ p (calmS s) (calm_ok s) (h Γ p hΓ)
  rw [calm_pat] at this
  exact this
/-- one that sleeps is there as it was -/
theorem kept {s z : Shared} {g : Nat} {gs : GenState} (o : Ok (calmP s) z) (h : s.gens[g]? = some gs) (hs : isSus gs = true) : (pat (calmP s) z).gens[g]? = some gs := by
  have hp : calmP s g = some gs := by unfold calmP; rw [h]; exact if_pos hs
  obtain ⟨_, h2⟩ := o.st g gs hp
  rw [pat_get, h2, hp]; rfl
theorem allBare_calm {s : Shared} (h : ∀ y ∈ s.gens, y.bare = true) : ∀ y ∈ (calmS s).gens, y.bare = true := fun y hy => by
  obtain ⟨x, hx, rfl⟩ := Array.mem_map.mp hy
  rw [bare_stk]; exact h x hx
theorem allBare_pat {s z : Shared} (o : Ok (calmP s) z) (hz : ∀ y ∈ z.gens, y.bare = true) : ∀ y ∈ (pat (calmP s) z).gens, y.bare = true := fun y hy => by
  obtain ⟨j, hj⟩ := Array.mem_iff_getElem?.mp hy
  rw [pat_get] at hj
  cases e : z.gens[j]? with
  | none => rw [e] at hj; cases hj
  | some x =>
    rw [e] at hj
    have hx := hz x (Array.mem_of_getElem? e)
    cases hp : calmP s j with
    | none => rw [hp] at hj; cases hj; exact hx
    | some gs =>
      rw [hp] at hj
      cases hj
      obtain ⟨_, h2⟩ := o.st j gs hp
      rw [e] at h2
      cases h2
      rw [← bare_stk]; exact hx
end GFr

set_option Elab.async false
set_option linter.all false
set_option maxRecDepth 100000
set_option maxHeartbeats 1000000
/-! GenSeg: a for loop within a generator; runs leave the generators bare. -/
namespace GFr
open PySem
open Sem (wp)
abbrev AllB (gs : Array GenState) : Prop := ∀ y ∈ gs, y.bare = true
theorem allB_set {s : Shared} {g : Nat} {x : GenState} (h : AllB s.gens) (hx : x.bare = true) : AllB (s.setGen g x).gens := fun y hy => by
  rcases Array.mem_or_eq_of_mem_setIfInBounds hy with z | z
  · exact h y z
  · rw [z]; exact hx
theorem allB_push {gs : Array GenState} {x : GenState} (h : AllB gs) (hx : x.bare = true) : AllB (gs.push x) := fun y hy => by
  rcases Array.mem_push.mp hy with z | z
  · exact h y z
  · rw [z]; exact hx
theorem runs_bare {M : Model} {Γ : Ctx} {p : Pos} {t : Sem PySem.Fin} {fs : List Frame} {s s' : Shared} {e : End} (h : Runs M Γ p t fs s e s') : AllB s.gens → AllB s'.gens := by
  induction h with
  | call _ _ i1 i2 => exact fun h => i2 (i1 h)
  | resumeFresh _ _ hq _ i1 i2 => exact fun h => i2 (allB_set (i1 (allB_set h rfl)) (End.bare_of_quiet hq))
  | resumeSuspended _ _ hq _ i1 i2 => exact fun h => i2 (allB_set (i1 (allB_set h rfl)) (End.bare_of_quiet hq))
  | resumeThrowFresh _ _ ih => exact fun h => ih (allB_set h rfl)
  | newGen _ ih => exact fun h => ih (allB_push h rfl)
  | segRet _ _ i1 i2 => exact fun h => i2 (i1 h)
  | segGen _ _ i1 i2 => exact fun h => i2 (allB_set (i1 h) rfl)
  | segSuspGen _ _ hq _ i1 i2 => exact fun h => i2 (allB_set (i1 h) (End.bare_of_quiet hq))
  | _ => first | (intro h; exact h) | (rename_i ih; exact fun h => ih h)
theorem wakes_bare {M : Model} {Γ : Ctx} {p : Pos} {g : Nat} {r : Resume} {s s' : Shared} {res : GenResult} (h : Wakes M Γ p g r s res s') (hb : AllB s.gens) : AllB s'.gens := by
  unfold Wakes at h
  split at h
  · exact h.elim
  · split at h
    · obtain ⟨e₁, s₁, hr, hq, _, rfl⟩ := h
      exact allB_set (runs_bare hr (allB_set hb rfl)) (End.bare_of_quiet hq)
    · rw [h.2]; exact hb
    · rw [h.2]; exact allB_set hb rfl
  · obtain ⟨e₁, s₁, hr, hq, _, rfl⟩ := h
    exact allB_set (runs_bare hr (allB_set hb rfl)) (End.bare_of_quiet hq)
  · rw [h.2]; exact hb
  · rw [h.2]; exact hb
theorem wp_bare {α : Type} (M : Model) (Γ : Ctx) (t : Sem α) : ∀ (Q : α → Pos → Shared → Prop) (E : Value → Pos → Shared → Prop) (p : Pos) (s : Shared), AllB s.gens → wp M Γ t Q E p s →
    wp M Γ t (fun a p' s' => AllB s'.gens ∧ Q a p' s') (fun e p' s' => AllB s'.gens ∧ E e p' s') p s := by
  induction t with
  | load a _ k ih => exact fun Q E p s hb ⟨o, ho, h⟩ => ⟨o, ho, ih o Q E p s hb h⟩
  | update a _ f k ih => exact fun Q E p s hb h => ⟨h.1, ih () Q E p { s with heap := s.heap.update a f } hb h.2⟩
  | choose src m k ih => exact fun Q E p s hb h => ⟨h.1, ih (M.w.draws src (s.drawn.get src) % m) Q E p { s with drawn := s.drawn.bump src } hb h.2⟩
  | call c hd _ _ k ih => exact fun Q E p s hb ⟨r, s', hr, h⟩ => ⟨r, s', hr, ih r Q E p s' (runs_bare hr hb) h⟩
  | genState g k ih => exact fun Q E p s hb ⟨st, hs, h⟩ => ⟨st, hs, ih _ Q E p s hb h⟩
  | newGen c k ih => exact fun Q E p s hb h => ih s.gens.size Q E p { s with gens := s.gens.push (.fresh c) } (allB_push hb rfl) h
  | resume g r _ k ih => exact fun Q E p s hb ⟨res, s', hw, h⟩ => ⟨res, s', hw, ih res Q E p s' (wakes_bare hw hb) h⟩
  | _ => first
    | exact fun Q E p s hb h => ⟨hb, h⟩
    | exact fun Q E p s hb h => h
    | (rename_i ih; exact fun Q E p s hb h => ih _ Q E _ _ hb h)
/-- a run leaves bare what was bare -/
theorem wpAny_bare {α : Type} {M : Model} {A : Around} {s : Shared} {t : Sem α} {Q : α → Shared → Prop} {E : Value → Shared → Prop} (hb : AllB s.gens)
    (h : wpAny M A t (fun a s' => AllB s'.gens → Q a s') (fun e s' => AllB s'.gens → E e s') s) : wpAny M A t Q E s :=
  wpAny_mono (fun Γ p hΓ => wp_bare M Γ t _ _ p s hb (h Γ p hΓ) : wpAny M A t (fun a s' => AllB s'.gens ∧ (AllB s'.gens → Q a s')) (fun e s' => AllB s'.gens ∧ (AllB s'.gens → E e s')) s)
    (fun _ _ x => x.2 x.1) fun _ _ x => x.2 x.1

/-! ### a generator is asked for its next item: it sleeps again, or it has ended -/
/-- y goes on, if there is a turn left -/
def gos (M : Model) (A : Around) (R : GenEnd) (Y : Protocol) (y : GenState) : Nat → Resume → Shared → Prop
  | 0, _, _ => False
  | m + 1, r, s => y.Goes M A R Y m r s
section
variable {M : Model} {A : Around} {R : GenEnd} {Y : Protocol} {n g : Nat} {E : Value → Shared → Prop} {s : Shared} {gs : GenState}
theorem resumeS {r : Resume} {l : List Value} {α : Type} {k : GenResult → Sem α} {Q : α → Shared → Prop} (h0 : s.gens[g]? = some gs) (h1 : gs.Goes M A R Y n r (s.setGen g .running))
    (hR : ∀ x s₁, R n (s.setGen g .running) x s₁ → wpAny M A (k (End.ret x).result) Q E (s₁.setGen g .finished))
    (hY : ∀ v s₁ y, isSus y = true → Y (n - 1) (s.setGen g .running) v s₁ (gos M A R Y y n) → wpAny M A (k (.yielded v)) Q E (s₁.setGen g y)) :
    wpAny M A (.resume g r l k) Q E s := by
  intro Γ p hΓ
  have woken : ∀ c, (Γ.wake c p).Woken A := fun c => hΓ.wake c p
  have key : ∀ e₁ s₁, SegEnd R Y n (Seg.next M A R Y n) (s.setGen g .running) e₁ s₁ → e₁.quiet = true ∧ wp M Γ (k e₁.result) (fun a _ s' => Q a s') (fun e _ s' => E e s') p (s₁.setGen g e₁.genState) := by
    rintro (x | ⟨v, g₀, l₀, k₀, c₀, p₀, fs₀⟩) s₁ he
    · exact ⟨rfl, hR x s₁ he Γ p hΓ⟩
    · refine ⟨he.1, hY v s₁ (.suspended k₀ l₀ c₀ p₀ fs₀ _) rfl ?_ Γ p hΓ⟩
      have := he.2
      cases n <;> exact this
  rw [Sem.wp_resume]
  match gs, h0, h1 with
  | .fresh c, h0, h1 =>
    obtain ⟨rfl, hs⟩ := h1
    obtain ⟨e₁, s₁, hr, he⟩ := seg_iff.mp hs _ p rfl (woken c)
    exact ⟨_, _, by unfold Wakes; rw [h0]; exact ⟨e₁, s₁, hr, (key e₁ s₁ he).1, rfl, rfl⟩, (key e₁ s₁ he).2⟩
  | .suspended k₀ l₀ c₀ p₀ fs₀ cl, h0, h1 =>
    obtain ⟨e₁, s₁, hr, he⟩ := seg_iff.mp h1 _ p₀ rfl (woken c₀)
    exact ⟨_, _, by unfold Wakes; rw [h0]; exact ⟨e₁, s₁, hr, (key e₁ s₁ he).1, rfl, rfl⟩, (key e₁ s₁ he).2⟩
  | .running, _, h1 => exact h1.elim
  | .finished, _, h1 => exact h1.elim
end
section
variable {prog : Program} {w : World} {A : Around} {E : Value → Shared → Prop} {s : Shared}
theorem nextS {a : Addr} {g n : Nat} {gs : GenState} {P : Nat → Shared → Shared → Prop} {Y : Protocol} {Q : Option Value → Shared → Prop} (hh : A.handled = none) (hl : s.heap.NoLimit) (hroom : A.depth < recursionLimit) (hG : s.heap.IsGen a g) (h0 : s.gens[g]? = some gs)
    (h1 : gs.Goes (model prog w) A.in1 (fun n s₀ r s₁ => r = .ok (.ret .none) ∧ P n s₀ s₁) Y n (.send .none) (s.setGen g .running))
    (hY : ∀ v s₁ y, isSus y = true → Y (n - 1) (s.setGen g .running) v s₁ (gos (model prog w) A.in1 (fun n s₀ r s₁ => r = .ok (.ret .none) ∧ P n s₀ s₁) Y y n) → Q (some v) (s₁.setGen g y))
    (hP : ∀ s₁, P n (s.setGen g .running) s₁ → ∀ h', (∀ b o, s₁.heap.get? b = some o → h'.get? b = some o) → Q none { s₁.setGen g .finished with heap := h' }) : wpAny (model prog w) A (pyNext (.ref a)) Q E s := by
  unfold pyNext
  refine wpAny_bind (wpAny_attempt (wpAny_callSpecial?_slot hG.typeIs slot_gen_next (wpAny_call_entry slot_gen_next hG.typeIs entry_gen_next ?_ (args_gen_next _))))
  show wpAny _ A.in1 (Builtin.Generator.genWake (.ref a) (.send .none)) _ _ s
  unfold Builtin.Generator.genWake
  refine wpAny_bind (wpAny_holding (wpAny_genNumber hG (wpAny_bind (wpAny_genState h0 ?_))))
  cases gs with
  | running => exact h1.elim
  | finished => exact h1.elim
  | _ =>
    refine wpAny_bind (wpAny_roomToWake hl hroom ?_)
    show wpAny _ A.in1 (.resume g (.send .none) [] _) _ _ s
    refine resumeS h0 h1 (fun x s₁ hx => ?_) fun v s₁ y hy hv => wpAny_pure ⟨v, rfl, wpAny_pure (hY v s₁ y hy hv)⟩
    obtain ⟨rfl, hp⟩ := hx
    show wpAny _ A.in1 (newExc (.type "StopIteration") [] >>= _) _ _ _
    refine wpAny_bind ?_
    simp only [newExc, newTuple]
    refine wpAny_bind (wpAny_newObj_type ?_ (by size_fits))
    refine wpAny_bind (m := firstArgMember _ _) (wpAny_of_eq (a := Value.none) (by first | rfl | (simp only [firstArgMember]; rfl)) (wpAny_newObj_type ?_ (by size_fits)))
    simp only [raiseNew]
    refine wpAny_bind (wpAny_bind (wpAny_handled ?_))
    rw [show A.in1.handled = none from hh]
    refine wpAny_throw (wpAny_bind (wpAny_isInstance (T := "StopIteration") (b := true) ⟨_, Heap.get?_push_size _ rfl, rfl⟩ isSubtype_stop ?_))
    exact wpAny_pure (hP s₁ hp _ fun b o hb => Heap.get?_push_of_some _ (Heap.get?_push_of_some _ hb))
end
/-! ### for, within a generator, where nothing is raised -/
abbrev NoX : Value → Shared → Prop := fun _ _ => False
section
variable {prog : Program} {w : World} {A : Around} {R : GenEnd} {Y : Protocol} {n : Nat} {s₀ : Shared} {fs : List Frame} {s : Shared} {env : Env}
/-- what follows a turn -/
def turnK (target : Expr) (it : Value) (body : List Stmt) (env : Env) : Flow → Sem PySem.Fin := fun f => match f with
  | .next | .cont => .pure (.again (.forLoop target it body [] env))
  | .brk => .pure (.done .next)
  | .ret v => .pure (.done (.ret v))
def turnJ (env : Env) : Value → Sem PySem.Fin := fun e => (do noteFrame e env; theTreesLotGoes e : Sem Unit).wrap (fun _ => .raise e) .raise id id
theorem seg_forLoop {target : Expr} {it : Value} {body : List Stmt}
    (h : wpAny (model prog w) (A.over (.forLoop target it body [] env) fs) (pyNext it) (fun r s' => match r with
      | none => Seg (model prog w) A R Y n s₀ (.forLoop target it body [] env) (.pure (.again (.block [] env))) fs s'
      | some v => wpAny (model prog w) (A.over (.forLoop target it body [] env) fs) (letOwnedTupleGo target it v) (fun _ s1 => wpAny (model prog w) (A.over (.forLoop target it body [] env) fs) (assign target env v)
          (fun _ s2 => Seg (model prog w) A R Y n s₀ (.forLoop target it body [] env) ((execs body env).wrap (turnK target it body env) (turnJ env) id id) fs s2) NoX s1) NoX s') NoX s) :
    Seg (model prog w) A R Y n s₀ (.forLoop target it body [] env) ((model prog w).den (.forLoop target it body [] env)) fs s := by
  show Seg _ A R Y n s₀ _ ((forTurn target it body [] env).onRaise (fun x => do noteFrame x env; theTreesLotGoes x)) fs s
  unfold forTurn
  rw [Sem.onRaise_eq_wrap, Sem.bind_eq_wrap', Sem.wrap_wrap]
  refine seg_wrap (wpAny_standAt ?_)
  rw [Sem.bind_eq_wrap', Sem.wrap_wrap]
  refine seg_wrap (wpAny_onRaise (wpAny_mono h (fun r s' hr => ?_) fun _ _ x => x.elim))
  cases r with
  | none => exact hr
  | some v =>
    dsimp only at hr ⊢
    rw [Sem.bind_eq_wrap', Sem.wrap_wrap]
    refine seg_wrap (wpAny_mono hr (fun _ s1 h1 => ?_) fun _ _ x => x.elim)
    rw [Sem.bind_eq_wrap', Sem.wrap_wrap]
    refine seg_wrap (wpAny_mono h1 (fun _ s2 h2 => ?_) fun _ _ x => x.elim)
    rw [Sem.bind_eq_wrap', Sem.wrap_wrap]
    rw [Sem.wrap_congr (execs body env) _ _ (K' := turnK target it body env) (H' := turnJ env) (fun f => by cases f <;> rfl) (fun e => by
      first | exact Sem.bind_eq_wrap _ _ | (show (do noteFrame e env; theTreesLotGoes e : Sem Unit).bind (fun _ => .raise e) = _; rw [Sem.bind_eq_wrap]; rfl))]
    exact h2
end
section
variable {M : Model} {A : Around} {R : GenEnd} {Y : Protocol} {n : Nat} {s₀ : Shared} {c : Code} {fs : List Frame} {s : Shared} {env : Env} {K : Flow → Sem PySem.Fin} {J : Value → Sem PySem.Fin} {gd : Bool → Bool} {lv : List Value → List Value}
theorem seg_For {target iter : Expr} {body : List Stmt} {pos : Pos} (hs : ∀ x, foldedSetIterable iter env x = pure x := by intro _; rfl)
    (h : wpAny M (A.over c fs) (eval iter env) (fun x s1 => wpAny M (A.over c fs) (pyIter x) (fun it s2 => ∀ p, Seg M A R Y n s₀ (.forLoop target it body [] env) (M.den (.forLoop target it body [] env))
      (.ret (fun r => ((match r with | .ok f => (.pure f : Sem Flow) | .error e => .raise e).onRaise (L2.cameBack env)).wrap K J gd lv) none (gd false) (lv []) c p [] :: fs) s2) NoX s1) NoX s) :
    Seg M A R Y n s₀ c ((exec (.For target iter body [] pos) env).wrap K J gd lv) fs s := by
  rw [exec_For]
  rw [Sem.bind_eq_wrap', Sem.wrap_wrap]
  refine seg_wrap (wpAny_standAt ?_)
  rw [Sem.bind_eq_wrap', Sem.wrap_wrap]
  refine seg_wrap (wpAny_mono h (fun x s1 h1 => ?_) fun _ _ x => x.elim)
  rw [Sem.bind_eq_wrap', Sem.wrap_wrap]
  refine seg_wrap (wpAny_of_eq (hs x) ?_)
  rw [Sem.bind_eq_wrap', Sem.wrap_wrap]
  refine seg_wrap (wpAny_standAt ?_)
  rw [Sem.bind_eq_wrap', Sem.wrap_wrap]
  refine seg_wrap (wpAny_holding (wpAny_mono h1 (fun it s2 h2 => ?_) fun _ _ x => x.elim))
  exact seg_call h2
end
end GFr

set_option Elab.async false
set_option linter.all false
set_option maxRecDepth 100000
set_option maxHeartbeats 1000000
/-! GenEs: the generator that yields the sides of a ring, segment by segment. -/
namespace GFr
open PySem PySem.Spec PyProof.Rows L2 GenW
open Sem (wp)
/-- a list or a tuple of these values -/
def Rg (h : Heap) (p : Addr) (its : List Value) : Prop := h.IsList p its.toArray ∨ IsTup h p its.toArray
theorem Rg.at {h h' : Heap} {p : Addr} {its : List Value} (x : Rg h p its) (k : ∀ o, h.get? p = some o → h'.get? p = some o) : Rg h' p its := by
  rcases x with x | ⟨o, ho, r⟩
  · exact .inl (x.at k)
  · exact .inr ⟨o, k o ho, r⟩
/-- the frame of the generator -/
structure GF (base : Heap) (env : Env) (p : Addr) (its : List Value) (kv : Option Value) (s : Shared) : Prop where
  ns : ∃ m, s.heap.Ns env.locals m ∧ m "ring" = some (.ref p) ∧ m "k" = kv
  bk : ∀ b o, base.get? b = some o → s.heap.get? b = some o
  rg : Rg s.heap p its
structure GX (K : PySem.W.Frag) (mg : Str → Option Value) (base : Heap) (env : Env) : Prop where
  mod : Mod K mg base
  kind : env.scope.kind = .function
  glob : env.globals = mainGlobals
  blt : env.builtins = builtinsNs
  kr : env.kindOf "ring" = some .local
  kk : env.kindOf "k" = some .local
  kl : env.kindOf "len" = some .globalImplicit
  kg : env.kindOf "range" = some .globalImplicit
  ml : mg "len" = none
  mr : mg "range" = none
section
variable {prog : Program} {w : World} {A : Around} {E : Value → Shared → Prop} {K : PySem.W.Frag} {mg : Str → Option Value} {base : Heap} {env : Env} {p : Addr} {its : List Value} {kv : Option Value} {s : Shared} {Q : Value → Shared → Prop}
theorem GF.tok (F : GF base env p its kv s) (t : Nat) : GF base env p its kv { s with toks := t } := ⟨F.ns, F.bk, F.rg⟩
theorem ev_ring {pos : Pos} (X : GX K mg base env) (F : GF base env p its kv s) (h : Q (.ref p) s) : wpAny (model prog w) A (eval (.Name "ring" pos) env) Q E s := by
  obtain ⟨m, h1, h2, _⟩ := F.ns
  exact wpAny_Name (wpAny_loadName_local X.kind X.kr h1 h2 h) (by decide)
theorem ev_k {pos : Pos} {v : Value} (X : GX K mg base env) (F : GF base env p its (some v) s) (h : Q v s) : wpAny (model prog w) A (eval (.Name "k" pos) env) Q E s := by
  obtain ⟨m, h1, _, h2⟩ := F.ns
  exact wpAny_Name (wpAny_loadName_local X.kind X.kk h1 h2 h) (by decide)
theorem ev_blt {x : Str} {u : Value} {pos : Pos} (X : GX K mg base env) (F : GF base env p its kv s) (hk : env.kindOf x = some .globalImplicit) (hm : mg x = none) (hv : bootBuiltins x = some u) (h : Q u s) (hn : x ≠ "__name__" := by decide) (hd : (x == ("__debug__" : Str)) = false := by decide) :
    wpAny (model prog w) A (eval (.Name x pos) env) Q E s := by
  obtain ⟨mb, h1, h2⟩ := X.mod.blt
  exact Calls.Name_function_global X.kind hk (Calls.loadGlobal_builtin (by rw [X.glob]; exact X.mod.glob.keeps F.bk) hm (by rw [X.blt]; exact h1.keeps F.bk) ((h2 x hn).trans hv) h) hd
theorem rg_len (hr : Rg s.heap p its) (hz : its.length < 2 ^ 62) (h : ∀ t tk, Q (.int its.length t) { s with toks := tk }) : wpAny (model prog w) A (call (.builtin "len") [.ref p]) Q E s := by
  have hz' : ((its.toArray.size : Nat) : Int) < 2 ^ 63 := by rw [List.size_toArray]; omega
  have q : ∀ t tk, Q (.int its.toArray.size t) { s with toks := tk } := fun t tk => by rw [List.size_toArray]; exact h t tk
  rcases hr with hr | hr
  · exact Calls.call_len_list hr hz' (q _ _)
  · exact len_tuple hr hz' (q _ _)
theorem rg_item {value slice : Expr} {k : Nat} {u : Tok} {x : Value} (hr : Rg s.heap p its) (hz : its.length < 2 ^ 62) (hx : its[k]? = some x) (h : Q x s) (hs : subscripted slice false (.ref p) (.int (k : Int) u) = operate [.ref p, .int (k : Int) u] (getItem (.ref p) (.int (k : Int) u))) :
    wpAny (model prog w) A (subscriptTail value slice (.ref p) (.int (k : Int) u)) Q E s := by
  have hk : k < its.length := (List.getElem?_eq_some_iff.mp hx).1
  rcases hr with hr | hr
  · exact item_listR hr (by omega) (by omega) (by simpa using hx) h hs
  · exact subscriptTail_builtinR (x := x) hr.typeIs slot_tuple_getitem.lookup
      (getItem_tuple (j := k) (Q := fun r s' => r = x ∧ Q r s') hr (by omega) (by omega) (by rw [seqIndex_of (by omega) (by rw [List.size_toArray]; omega)]; simp) (by simpa using hx) ⟨rfl, h⟩) hs
theorem ev_len {p1 p2 p3 : Pos} (X : GX K mg base env) (F : GF base env p its kv s) (hz : its.length < 2 ^ 62) (h : ∀ t tk, Q (.int its.length t) { s with toks := tk })
    (he : starEach [.Name "ring" p2] env = (false, eval (.Name "ring" p2) env) :: starEach [] env := by rfl) :
    wpAny (model prog w) A (eval (.Call (.Name "len" p1) [.Name "ring" p2] [] p3) env) Q E s := by
  refine wpAny_Call_Name_kw (ev_blt X F X.kl X.ml boot_len ?_)
  refine PyProof.Rows.callWith_builtin1 ?_ he rfl
  rw [he]
  exact Calls.spliced_cons (ev_ring X F (Calls.spliced_nil (rg_len F.rg hz h)))
theorem ev_pair {p1 p2 p3 p4 p5 p6 p7 p8 p9 p10 p11 p12 p13 : Pos} {j1 j2 : Nat} {i : Nat} {t : Tok} {x y : Value} (X : GX K mg base env) (F : GF base env p its (some (.int (i : Int) t)) s) (hz : its.length < 2 ^ 62) (hx : its[i]? = some x) (hy : its[(i + 1) % its.length]? = some y)
    (h : ∀ tk, Q (.ref s.heap.objs.size) { s with heap := s.heap.push { cls := .type "tuple", data := .seq #[x, y] }, toks := tk }) :
    wpAny (model prog w) A (eval (.Tuple [.Subscript (.Name "ring" p1) (.Name "k" p2) p3,
      .Subscript (.Name "ring" p4) (.BinOp (.BinOp (.Name "k" p5) .Add (.Constant (.int 1) j1 p6) p7) .Mod (.Call (.Name "len" p8) [.Name "ring" p9] [] p10) p11) p12] j2 p13) env) Q E s := by
  have hi : i < its.length := (List.getElem?_eq_some_iff.mp hx).1
  refine wpAny_Tuple_spliced ?_
  refine Calls.spliced_cons (x := eval (.Subscript (.Name "ring" p1) (.Name "k" p2) p3) env) (rest := backTo p13 (starEach [_] env)) ?_
  refine Subscript_ (ev_ring X F (ev_k X F (rg_item F.rg hz hx ?_ rfl)))
  refine Calls.spliced_cons (x := eval (.Subscript _ _ p12) env) (rest := backTo p13 (starEach [] env)) ?_
  refine Subscript_ (ev_ring X F (wpAny_BinOp (wpAny_BinOp (ev_k X F (wpAny_Constant_int (add_int ?_))))))
  refine ev_len X (F.tok _) hz fun t tk => ?_
  have e : (((i : Int) + 1).fmod (its.length : Int)) = (((i + 1) % its.length : Nat) : Int) := by
    rw [Int.fmod_eq_emod_of_nonneg _ (by omega)]
    push_cast
    rfl
  refine mod_int' (by omega) ?_
  rw [e]
  exact rg_item F.rg hz hy (Calls.spliced_nil ⟨by show 2 ≤ _; decide, h _⟩) rfl
end
/-- all but the frame's dict and the iterator stays -/
def KeepE (L it : Addr) (s₀ s : Shared) : Prop := (∃ h tk, s = { s₀ with heap := h, toks := tk }) ∧ ∀ b o, b ≠ L → b ≠ it → s₀.heap.get? b = some o → s.heap.get? b = some o
theorem KeepE.refl {L it : Addr} {s : Shared} : KeepE L it s s := ⟨⟨s.heap, s.toks, rfl⟩, fun _ _ _ _ h => h⟩
theorem KeepE.step {L it : Addr} {s₀ s : Shared} {h : Heap} {tk : Nat} (x : KeepE L it s₀ s) (k : ∀ b o, b ≠ L → b ≠ it → s.heap.get? b = some o → h.get? b = some o) : KeepE L it s₀ { s with heap := h, toks := tk } := by
  obtain ⟨⟨h0, t0, e⟩, y⟩ := x
  subst e
  exact ⟨⟨h, tk, rfl⟩, fun b o h1 h2 q => k b o h1 h2 (y b o h1 h2 q)⟩
/-- it is there, and no cell -/
def Ob (h : Heap) (b : Addr) : Prop := ∃ o, h.get? b = some o ∧ ∀ v, o.data ≠ .cell v
/-- a side is yielded -/
def YE (base : Heap) (L it p : Addr) (its : List Value) : Protocol := fun n s₀ v s kap => ∃ (i : Nat) (t : Addr) (x y : Value), n + (i + 1) = its.length ∧ its[i]? = some x ∧ its[(i + 1) % its.length]? = some y ∧ v = .ref t ∧ s₀.heap.objs.size ≤ t ∧
  s.heap.get? t = some { cls := .type "tuple", data := .seq #[x, y] } ∧ KeepE L it s₀ s ∧ Ob s.heap L ∧ Ob s.heap it ∧ t ≠ L ∧ t ≠ it ∧
  ∀ s'', (∀ b o, (b = L ∨ b = it) → s.heap.get? b = some o → s''.heap.get? b = some o) → Rg s''.heap p its → (∀ b o, base.get? b = some o → s''.heap.get? b = some o) → kap (.send .none) s''
def RE (L it : Addr) : GenEnd := fun n s₀ r s => r = .ok (.ret .none) ∧ n = 0 ∧ KeepE L it s₀ s
section
variable {prog : Program} {w : World} {A : Around} {K : PySem.W.Frag} {mg : Str → Option Value} {base : Heap} {env : Env} {p it : Addr} {its : List Value}
theorem ns_keep {h h' : Heap} {L : Addr} {m : Str → Option Value} (x : h.Ns L m) (k : ∀ o, h.get? L = some o → h'.get? L = some o) : h'.Ns L m := by
  obtain ⟨o, es, ep, ho, r⟩ := x
  exact ⟨o, es, ep, k o ho, r⟩
theorem es_loop {p1 p2 p3 p4 p5 p6 p7 p8 p9 p10 p11 p12 p13 pk yp ep : Pos} {j1 j2 : Nat} {fr : List Frame} (X : GX K mg base env)
    (body : List Stmt) (hbody : body = [.Expr (.Yield (some (.Tuple [.Subscript (.Name "ring" p1) (.Name "k" p2) p3,
      .Subscript (.Name "ring" p4) (.BinOp (.BinOp (.Name "k" p5) .Add (.Constant (.int 1) j1 p6) p7) .Mod (.Call (.Name "len" p8) [.Name "ring" p9] [] p10) p11) p12] j2 p13)) yp) ep])
    (hh : (A.over (.forLoop (.Name "k" pk) (.ref it) body [] env) fr).handled = none) (hsp : splitAtGen fr = none) (hgd : fr.any Frame.guarded = false) (hco : env.scope.isCoroutine = false) (hi : interactive env = false)
    (hLi : env.locals ≠ it) (hpL : p ≠ env.locals) (hpi : p ≠ it) (hbL : base.get? env.locals = none) (hbi : base.get? it = none) (hz : its.length < 2 ^ 62)
    (hend : ∀ c s₀ s, KeepE env.locals it s₀ s → Seg (model prog w) A (RE env.locals it) (YE base env.locals it p its) 0 s₀ c (.pure (.done .next)) fr s) :
    ∀ (r i n : Nat) (s₀ s : Shared) (kv : Option Value), i + r = its.length → n + i = its.length → KeepE env.locals it s₀ s → s₀.heap.objs.size ≤ s.heap.objs.size → GF base env p its kv s → IsRangeIter s.heap it (0 + ((i : Nat) : Int) * 1) ((its.length : Int) - (i : Nat)) 1 →
      Seg (model prog w) A (RE env.locals it) (YE base env.locals it p its) n s₀ (.forLoop (.Name "k" pk) (.ref it) body [] env) ((model prog w).den (.forLoop (.Name "k" pk) (.ref it) body [] env)) fr s
  | 0, i, n, s₀, s, kv, hir, hni, hk, hsz0, F, hit => by
    have hn : n = 0 := by omega
    subst hn
    refine seg_forLoop (wpAny_pyNext_range_end hh hit (by omega) fun h' eb => ?_)
    refine seg_again rfl ?_
    exact hend _ s₀ _ (hk.step (tk := s.toks) fun b o _ h2 q => eb b o h2 q)
  | r + 1, i, n, s₀, s, kv, hir, hni, hk, hsz0, F, hit => by
    have hil : i < its.length := by omega
    obtain ⟨n, rfl⟩ : ∃ m, n = m + 1 := ⟨n - 1, by omega⟩
    have hx : its[i]? = some its[i] := List.getElem?_eq_getElem hil
    have hj : (i + 1) % its.length < its.length := Nat.mod_lt _ (by omega)
    have hy : its[(i + 1) % its.length]? = some its[(i + 1) % its.length] := List.getElem?_eq_getElem hj
    refine seg_forLoop (wpAny_pyNext_range_item hit (by omega) fun h' st' kk => ?_)
    obtain ⟨t, ht⟩ : ∃ t, t = s.toks := ⟨_, rfl⟩
    obtain ⟨tk, htk⟩ : ∃ t, t = s.toks + 1 := ⟨_, rfl⟩
    rw [← htk, ← ht]
    have k1 : ∀ b o, b ≠ it → s.heap.get? b = some o → h'.get? b = some o := fun b o hb e => kk.extBut b o hb e
    obtain ⟨m, hm, hm1, hm2⟩ := F.ns
    have hm' : h'.Ns env.locals m := ns_keep hm fun o q => k1 _ o hLi q
    refine wpAny_pure ?_
    refine wpAny_assign_Name (wpAny_storeName_local (s := { s with heap := h', toks := tk }) X.kk hm' (fun h'' hn'' sb => ?_) (by rw [X.kind]; rfl))
    have k2 : ∀ b o, b ≠ env.locals → h'.get? b = some o → h''.get? b = some o := fun b o hb e => (sb.2 b hb).trans e
    have F2 : GF base env p its (some (.int ((i : Nat) : Int) t)) { s with heap := h'', toks := tk + 1 } := by
      refine ⟨⟨_, hn'', ?_, ?_⟩, fun b o q => ?_, ?_⟩
      · show (if ("ring" : Str) = "k" then _ else m "ring") = _
        rw [if_neg (by decide)]; exact hm1
      · show (if ("k" : Str) = "k" then some _ else _) = _
        rw [if_pos rfl, Int.mul_one, Int.zero_add]
      · have hb1 : b ≠ env.locals := fun z => by rw [z, hbL] at q; cases q
        have hb2 : b ≠ it := fun z => by rw [z, hbi] at q; cases q
        exact k2 b o hb1 (k1 b o hb2 (F.bk b o q))
      · exact F.rg.at fun o q => k2 p o hpL (k1 p o hpi q)
    have st2 : IsRangeIter h'' it (0 + (((i + 1 : Nat) : Nat) : Int) * 1) ((its.length : Int) - ((i + 1 : Nat) : Nat)) 1 := by
      have e1 : (0 : Int) + ((i + 1 : Nat) : Int) * 1 = 0 + (i : Int) * 1 + 1 := by omega
      have e2 : (its.length : Int) - ((i + 1 : Nat) : Int) = (its.length : Int) - (i : Int) - 1 := by omega
      rw [e1, e2]
      exact k2 it _ (Ne.symm hLi) st'
    have hk2 : KeepE env.locals it s₀ { s with heap := h'', toks := tk + 1 } := hk.step fun b o h1 h2 q => k2 b o h1 (k1 b o h2 q)
    subst hbody
    refine seg_execs_cons (seg_Expr_Yield hsp rfl hgd ?_ hco hi)
    refine ev_pair X F2 hz hx hy fun tk2 => ?_
    intro kap hkap
    have hk3 : KeepE env.locals it s₀ { s with heap := h''.push { cls := .type "tuple", data := .seq #[its[i], its[(i + 1) % its.length]] }, toks := tk2 } := hk.step fun b o h1 h2 q => Heap.get?_push_of_some _ (k2 b o h1 (k1 b o h2 q))
    have oL : Ob (h''.push { cls := .type "tuple", data := .seq #[its[i], its[(i + 1) % its.length]] }) env.locals := by
      obtain ⟨m2, ⟨o, es, ep, q1, q2, _⟩, _⟩ := F2.ns
      exact ⟨o, Heap.get?_push_of_some _ q1, fun v z => by rw [q2] at z; cases z⟩
    have oi : Ob (h''.push { cls := .type "tuple", data := .seq #[its[i], its[(i + 1) % its.length]] }) it := ⟨_, Heap.get?_push_of_some _ st2, fun v z => by
      have z' : Data.fields _ = Data.cell v := z
      cases z'⟩
    have tL : h''.objs.size ≠ env.locals := by
      obtain ⟨m2, ⟨o, es, ep, q1, _⟩, _⟩ := F2.ns
      exact Nat.ne_of_gt (Heap.lt_size q1)
    have ti : h''.objs.size ≠ it := Nat.ne_of_gt (Heap.lt_size st2)
    have hsz : s₀.heap.objs.size ≤ h''.objs.size := by rw [sb.1]; show _ ≤ h'.objs.size; rw [kk.1]; exact hsz0
    refine ⟨i, h''.objs.size, _, _, by omega, hx, hy, rfl, hsz, Heap.get?_push_size _ rfl, hk3, oL, oi, tL, ti, fun s'' c1 cr c2 => hkap .none s'' ?_⟩
    refine seg_execs_nil (seg_again rfl ?_)
    have c3 : ∀ b o, (b = env.locals ∨ b = it) → h''.get? b = some o → s''.heap.get? b = some o := fun b o hb q => c1 b o hb (Heap.get?_push_of_some _ q)
    refine es_loop X _ rfl hh hsp hgd hco hi hLi hpL hpi hbL hbi hz hend r (i + 1) n s'' s'' (some (.int ((i : Nat) : Int) t)) (by omega) (by omega) KeepE.refl (Nat.le_refl _) ?_ (c3 it _ (.inr rfl) st2)
    obtain ⟨m2, q1, q2, q3⟩ := F2.ns
    exact ⟨⟨m2, ns_keep q1 fun o q => c3 _ o (.inl rfl) q, q2, q3⟩, c2, cr⟩
theorem es_start {p1 p2 p3 p4 p5 p6 p7 p8 p9 p10 p11 p12 p13 pk yp ep pr q1 q2 q3 pc pf : Pos} {j1 j2 : Nat} {s : Shared} {kv : Option Value} (X : GX K mg base env) (fb body : List Stmt) (hfb : fb = [.For (.Name "k" pk) (.Call (.Name "range" pr) [.Call (.Name "len" q1) [.Name "ring" q2] [] q3] [] pc) body [] pf])
    (hbody : body = [.Expr (.Yield (some (.Tuple [.Subscript (.Name "ring" p1) (.Name "k" p2) p3,
      .Subscript (.Name "ring" p4) (.BinOp (.BinOp (.Name "k" p5) .Add (.Constant (.int 1) j1 p6) p7) .Mod (.Call (.Name "len" p8) [.Name "ring" p9] [] p10) p11) p12] j2 p13)) yp) ep])
    (hh : (A.deeper env).handled = none) (hco : env.scope.isCoroutine = false) (hi : interactive env = false) (hLs : env.locals < s.heap.objs.size) (hps : p < s.heap.objs.size) (hpL : p ≠ env.locals) (hbL : base.get? env.locals = none) (hbs : base.objs.size ≤ s.heap.objs.size)
    (hit : s.heap.objs.size + 1 = it) (hz : its.length < 2 ^ 62) (F : GF base env p its kv s) :
    Seg (model prog w) A (RE env.locals it) (YE base env.locals it p its) its.length s (.func fb env) ((model prog w).den (.func fb env)) [] s := by
  subst hfb
  have hbi : base.get? it = none := by
    cases e : base.get? it with
    | none => rfl
    | some o => exact absurd (Nat.lt_of_lt_of_le (Heap.lt_size e) hbs) (by rw [← hit]; exact Nat.not_lt.mpr (Nat.le_succ _))
  refine seg_func (seg_execs_cons (seg_For (by intro _; rfl) ?_))
  rw [over_func]
  refine Call_ (ev_blt X F X.kg X.mr boot_range ?_)
  refine PyProof.Rows.callWith_type1 ?_ rfl rfl
  refine Calls.spliced_cons (x := eval (.Call (.Name "len" q1) [.Name "ring" q2] [] q3) env) (rest := backTo pc (starEach [] env)) (ev_len X F hz fun t tk => Calls.spliced_nil ?_)
  refine call_range_1 ?_
  refine wpAny_pyIter_range (IsRange.new ..) (small_one (by decide) (by decide) (by omega) (by omega)) ?_
  intro pp
  have hs2 : ∀ (o : Obj), (s.heap.push o).objs.size = it := fun o => by rw [Heap.size_push]; exact hit
  simp only [hs2]
  refine es_loop (fr := _ :: []) X body hbody (by rw [over_loop rfl rfl, over_func]; exact hh) rfl rfl hco hi (by rw [← hit]; exact Nat.ne_of_lt (Nat.lt_succ_of_lt hLs)) hpL (by rw [← hit]; exact Nat.ne_of_lt (Nat.lt_succ_of_lt hps)) hbL hbi hz (fun c s₀ s1 hk => ?_) its.length 0 its.length s _ kv (by omega) (by omega) ?_ ?_ ?_ ?_
  · refine seg_leaf (.ok .next) ?_
    exact seg_end (.ok (.ret .none)) ⟨rfl, rfl, hk⟩
  · exact KeepE.refl.step fun b o _ _ q => Heap.get?_push_of_some _ (Heap.get?_push_of_some _ q)
  · show _ ≤ ((s.heap.push _).push _).objs.size
    rw [Heap.size_push, Heap.size_push]; omega
  · obtain ⟨m, h1, h2, h3⟩ := F.ns
    have k : ∀ (o1 o2 : Obj) b o, s.heap.get? b = some o → ((s.heap.push o1).push o2).get? b = some o := fun o1 o2 b o q => Heap.get?_push_of_some _ (Heap.get?_push_of_some _ q)
    exact ⟨⟨m, ns_keep h1 fun o q => k _ _ _ o q, h2, h3⟩, fun b o q => k _ _ b o (F.bk b o q), F.rg.at fun o q => k _ _ p o q⟩
  · have e2 : ((its.length : Nat) : Int) - ((0 : Nat) : Int) = Builtin.Range.rangeSize 0 (its.length : Int) 1 := by rw [rangeSize_one]; split <;> omega
    have e1 : (0 : Int) + ((0 : Nat) : Int) * 1 = 0 := by simp
    rw [e1, e2]
    show Heap.get? _ it = some _
    rw [← hs2 { cls := .type "range", data := .fields #[.int 0 tk, .int (its.length : Int) t, .int 1 (tk + 1)] }]
    exact Heap.get?_push_size _ rfl
end
end GFr

set_option Elab.async false
set_option linter.all false
set_option maxRecDepth 100000
set_option maxHeartbeats 1000000
/-! GenFor: for .. in each_side(ring), the body by the readings of HandS. -/
namespace GFr
open PySem PySem.Spec PyProof.Rows L2 GenW
section
variable {X : Cx} {pins : List (Addr × Obj)} {σ : L2.St} {H : Hp} {s : Shared}
theorem inv_gens {G : Array GenState} (I : Inv X pins σ H s) (hG : AllBare G) : Inv X pins σ H { s with gens := G } :=
  ⟨I.ok, I.os, hG, I.base, I.loc, I.cell, I.free, I.freeC, I.pin, I.hok, I.len⟩
/-- the frame's dict and the iterator of a generator have turned -/
theorem inv_turn {G : Array GenState} {L it : Addr} {s₁ : Shared} (I : Inv X pins σ H s) (fL : FpOk X pins H L) (fi : FpOk X pins H it) (hk : ∀ b o, b ≠ L → b ≠ it → s.heap.get? b = some o → s₁.heap.get? b = some o) (hos : s₁.os = s.os) (hG : AllBare G) :
    Inv X pins σ H { s₁ with gens := G } := by
  have nL : ∀ b u, H b = some u → b ≠ L := fun b u e z => by rw [z, fL.1] at e; cases e
  have ni : ∀ b u, H b = some u → b ≠ it := fun b u e z => by rw [z, fi.1] at e; cases e
  have kk : ∀ b o, b ∉ [L, it] → s.heap.get? b = some o → s₁.heap.get? b = some o := fun b o hb q => hk b o (fun z => hb (by simp [z])) (fun z => hb (by simp [z])) q
  refine I.call' (ch := [L, it]) (s' := { s₁ with gens := G }) hos ⟨fun b o q n _ hx => kk b o hx q, fun b o q n _ hx => ⟨o.slots, kk b o hx q⟩, fun b o q n hx => n, fun b o q hx => ⟨o, kk b o hx q⟩, fun b xs q => q, fun b o u q => q, fun b ps q => ⟨#[], by rw [q]; simp⟩⟩ (fun b u q => ?_) hG fun b hb => ?_
  · refine (I.hok b u q).stay (fun c v hc y => hk c v ?_ ?_ y) (fun _ y => y) fun _ _ y => y
    · rcases hc with z | z
      · rw [z]; exact nL b u q
      · exact nL c _ z
    · rcases hc with z | z
      · rw [z]; exact ni b u q
      · exact ni c _ z
  · have e : b = L ∨ b = it := by simpa using hb
    rcases e with z | z
    · rw [z]; exact ⟨fL.2.2.2.1, fL.2.1, fL.2.2.2.2.1, fL.2.2.2.2.2⟩
    · rw [z]; exact ⟨fi.2.2.2.1, fi.2.1, fi.2.2.2.2.1, fi.2.2.2.2.2⟩
/-- .. and a tuple is laid -/
theorem inv_turnT {G : Array GenState} {L it t : Addr} {s₁ : Shared} {xs : List V} {us : List Value} (I : Inv X pins σ H s) (fL : FpOk X pins H L) (fi : FpOk X pins H it) (hk : ∀ b o, b ≠ L → b ≠ it → s.heap.get? b = some o → s₁.heap.get? b = some o) (hos : s₁.os = s.os) (hG : AllBare G)
    (hn : s.heap.objs.size ≤ t) (ht : s₁.heap.get? t = some { cls := .type "tuple", data := .seq us.toArray }) (r : Vals xs us) (hz : xs.length ≤ sizeLine) : Inv X pins σ (upd H t (.tup xs)) { s₁ with gens := G } := by
  have nL : ∀ b u, H b = some u → b ≠ L := fun b u e z => by rw [z, fL.1] at e; cases e
  have ni : ∀ b u, H b = some u → b ≠ it := fun b u e z => by rw [z, fi.1] at e; cases e
  have nt : H t = none := I.hok.fresh hn
  have lt : ∀ b o, s.heap.get? b = some o → b ≠ t := fun b o q z => by
    rw [z] at q
    exact Nat.lt_irrefl _ (Nat.lt_of_lt_of_le (Heap.lt_size q) hn)
  have kk : ∀ b o, b ∉ [L, it] → s.heap.get? b = some o → s₁.heap.get? b = some o := fun b o hb q => hk b o (fun z => hb (by simp [z])) (fun z => hb (by simp [z])) q
  have up : ∀ b u, H b = some u → upd H t (.tup xs) b = some u := fun b u q => by rw [upd_ne (ne_of_none q nt)]; exact q
  refine I.call' (ch := [L, it]) (s' := { s₁ with gens := G }) hos ⟨fun b o q n _ hx => kk b o hx q, fun b o q n _ hx => ⟨o.slots, kk b o hx q⟩, fun b o q n hx => by rw [upd_ne (lt b o q)]; exact n, fun b o q hx => ⟨o, kk b o hx q⟩, fun b xs q => up b _ q, fun b o u q => up b _ q, fun b ps q => ⟨#[], by rw [up b _ q]; simp⟩⟩ (fun b u q => ?_) hG fun b hb => ?_
  · by_cases hb : b = t
    · subst hb
      rw [upd_same] at q
      cases q
      exact ⟨hz, us, r, ⟨_, ht, rfl, _, rfl⟩⟩
    · rw [upd_ne hb] at q
      refine (I.hok b u q).stay (fun c v hc y => hk c v ?_ ?_ y) (fun c y => up c _ y) fun c _ y => up c _ y
      · rcases hc with z | z
        · rw [z]; exact nL b u q
        · exact nL c _ z
      · rcases hc with z | z
        · rw [z]; exact ni b u q
        · exact ni c _ z
  · have e : b = L ∨ b = it := by simpa using hb
    rcases e with z | z
    · rw [z]; exact ⟨fL.2.2.2.1, fL.2.1, fL.2.2.2.2.1, fL.2.2.2.2.2⟩
    · rw [z]; exact ⟨fi.2.2.2.1, fi.2.1, fi.2.2.2.2.1, fi.2.2.2.2.2⟩
/-- a part that HandS reads, run while generators sleep -/
theorem run_calm {α : Type} {M : Model} {A : Around} {t : Sem α} {Q : α → Shared → Prop} {Q' : α → Shared → Prop} (I : Inv X pins σ H s) (h : ∀ z, Inv X pins σ H z → z.heap = s.heap → wpAny M A t Q (fun _ _ => False) z)
    (hQ : ∀ a z G, Q a z → (AllBare z.gens → AllBare G) → (∀ (g : Nat) (gs : GenState), s.gens[g]? = some gs → isSus gs = true → G[g]? = some gs) → Q' a { z with gens := G }) :
    wpAny M A t Q' (fun _ _ => False) s := by
  have hc : wpAny M A t Q (fun _ _ => False) (calmS s) := h _ (inv_gens I (allBare_calm I.bare)) rfl
  refine wpAny_mono (frame hc) (fun a s' hz => ?_) fun a s' hz => ?_
  · obtain ⟨z, o, rfl, q⟩ := hz
    exact hQ a z (pat (calmP s) z).gens q (fun hb => allBare_pat o hb) fun g gs h1 h2 => kept o h1 h2
  · obtain ⟨_, _, _, z⟩ := hz
    exact z
end
def Sq2 (K : PySem.W.Frag) (H : Hp) (p : Addr) (xs : List V) : Prop := SqL K H p xs ∨ SqT K H p xs
/-- the sides of the list or tuple at p -/
def ItEs (K : PySem.W.Frag) (p : Addr) (as : List Addr) : It :=
  ⟨fun i H => Sq2 K H p (as.map V.ref) ∧ i < as.length, fun i H v H' => ∃ (T : Addr) (x y : Addr), v = .ref T ∧ H T = none ∧ H' = upd H T (.tup [.ref x, .ref y]) ∧ as[i]? = some x ∧ as[(i + 1) % as.length]? = some y, fun i H => Sq2 K H p (as.map V.ref) ∧ as.length ≤ i⟩
theorem vals_refs : ∀ {as : List Addr} {us : List Value}, Vals (as.map V.ref) us → us = as.map Value.ref
  | [], _, r => by cases r; rfl
  | a :: as, _, r => by
    cases r with
    | cons r1 r2 =>
      cases (show _ = Value.ref a from r1)
      rw [vals_refs r2]; rfl
theorem refs_vals : ∀ as : List Addr, Vals (as.map V.ref) (as.map Value.ref)
  | [] => .nil
  | a :: as => .cons rfl (refs_vals as)
theorem rg_of {X : Cx} {pins : List (Addr × Obj)} {σ : L2.St} {H : Hp} {s : Shared} {p : Addr} {as : List Addr} (I : Inv X pins σ H s) (h : Sq2 X.K H p (as.map V.ref)) : Rg s.heap p (as.map Value.ref) ∧ as.length ≤ sizeLine := by
  rcases h with h | h
  · obtain ⟨its, r, pl, hz⟩ := I.list h
    rw [vals_refs r] at pl
    exact ⟨.inl pl.isList, by simpa using hz⟩
  · obtain ⟨its, r, pl, hz⟩ := I.tuple h
    rw [vals_refs r] at pl
    exact ⟨.inr pl, by simpa using hz⟩
/-- what is known of the def each_side -/
structure EsD (K : PySem.W.Frag) (mg : Str → Option Value) (f : Addr) (fd : FuncData) (fb yb : List Stmt) (pk : Pos) : Prop where
  fb_ : ∃ pr q1 q2 q3 pc pf : Pos, fb = [.For (.Name "k" pk) (.Call (.Name "range" pr) [.Call (.Name "len" q1) [.Name "ring" q2] [] q3] [] pc) yb [] pf]
  yb_ : ∃ (p1 p2 p3 p4 p5 p6 p7 p8 p9 p10 p11 p12 p13 yp ep : Pos) (j1 j2 : Nat), yb = [.Expr (.Yield (some (.Tuple [.Subscript (.Name "ring" p1) (.Name "k" p2) p3,
      .Subscript (.Name "ring" p4) (.BinOp (.BinOp (.Name "k" p5) .Add (.Constant (.int 1) j1 p6) p7) .Mod (.Call (.Name "len" p8) [.Name "ring" p9] [] p10) p11) p12] j2 p13)) yp) ep]
  F : ∃ (params : Arguments) (scope : Scope), FunD K "each_side" "each_side" params fb scope [] [] f fd ∧ GScope ["ring", "k"] ["ring"] scope ∧ scope.names.lookup ("ring" : Str) = some .local ∧ scope.names.lookup ("k" : Str) = some .local ∧ scope.names.lookup ("len" : Str) = some .globalImplicit ∧ scope.names.lookup ("range" : Str) = some .globalImplicit
  b : Binds K fd ["ring"] []
  mgf : mg "each_side" = some (.ref f)
  ml : mg "len" = none
  mr : mg "range" = none
/-- a generator that has not begun -/
structure EsM (X : Cx) (pins : List (Addr × Obj)) (H : Hp) (p : Addr) (fb : List Stmt) (a : Addr) (g : Nat) (env : Env) (s : Shared) : Prop where
  isg : s.heap.IsGen a g
  gs : s.gens[g]? = some (.fresh (.func fb env))
  fa : FpOk X pins H a
  fL : FpOk X pins H env.locals
  x : GX X.K X.mg X.base env
  co : env.scope.isCoroutine = false
  it : interactive env = false
  lt : env.locals < s.heap.objs.size
  bL : X.base.get? env.locals = none
  ns : ∃ m, s.heap.Ns env.locals m ∧ m "ring" = some (.ref p)
  aL : a ≠ env.locals
section
variable {X : Cx} {pins : List (Addr × Obj)} {σ : L2.St} {H : Hp} {s : Shared}
theorem made_es {f p : Addr} {fd : FuncData} {fb yb : List Stmt} {pk : Pos} {k : Nat} {E : Value → Shared → Prop} {Q : Value → Shared → Prop} (D : EsD X.K X.mg f fd fb yb pk) (hr : Room k X.A) (I : Inv X pins σ H s)
    (h : ∀ a g env s', Inv X pins σ H s' → EsM X pins H p fb a g env s' → Q (.ref a) s') : wpAny (model X.prog X.w) X.A (call (.ref f) [.ref p]) Q E s := by
  obtain ⟨params, scope, F, S, kr, kk, kl, kg⟩ := D.F
  obtain ⟨oc, od, dV, kV, doc, pm, an, cdv, ct, osl, rfl, lk, hcd, _, _⟩ := F.ex
  have hkind : ∀ y ∈ (["ring"] : List Str).zip [Value.ref p], scope.names.lookup y.1 = some .local ∨ (scope.names.lookup y.1 = some .cell ∧ ((cellsFrom (s.heap.objs.size + 1) scope.names []).lookup y.1).isSome = true) := fun y hy => by
    have e : y = (("ring" : Str), Value.ref p) := by simpa using hy
    subst e
    exact .inl kr
  refine wpAny_call (codeAny_call_generator hr.depth (I.kIn _ _ lk) rfl S.co S.gen rfl (PySem.W.codeRec_of I.kIn hcd) (D.b s [.ref p] I.kIn rfl _ _ _ _ ?_))
  refine wpAny_newFunctionEnv_cells S.kind hkind fun env he s1 x => ?_
  subst he
  have kp1 := x.toInCall.keep
  refine ⟨I.nolimit.keeps kp1, ?_⟩
  obtain ⟨h1, tk, es1, _⟩ := x.done
  have ns1 := x.toInCall.ns
  have fr1 := x.toInCall.fresh
  subst es1
  have lt1 : s.heap.objs.size < h1.objs.size := ns1.lt
  have kp2 : ∀ (o' : Obj) b o, s.heap.get? b = some o → (h1.push o').get? b = some o := fun o' b o q => Heap.get?_push_of_some _ (kp1 b o q)
  show Q (.ref h1.objs.size) _
  refine h h1.objs.size s.gens.size (envOfC "each_side" scope s.heap.objs.size f cdv) _ ?_ ?_
  · refine I.call' (ch := []) rfl (Un.kept (kp2 _)) (I.hok.kept (kp2 _)) (AllBare.push I.bare rfl) fun b z => by simp at z
  · have young : ∀ b, s.heap.objs.size ≤ b → FpOk X pins H b := fun b hb => I.fpOk hb (I.hok.fresh hb)
    refine ⟨⟨_, _, _, Heap.get?_push_size _ rfl, rfl, rfl, rfl⟩, Array.getElem?_push_size .., young _ (Nat.le_of_lt lt1), young _ (Nat.le_refl _), ⟨I.ok.mod, S.kind, rfl, rfl, kr, kk, kl, kg, D.ml, D.mr⟩, S.co, ?_, ?_, ?_, ?_, ?_⟩
    · unfold interactive
      show (scope.kind == .module && _) = false
      rw [S.kind]; rfl
    · show s.heap.objs.size < (h1.push _).objs.size
      rw [Heap.size_push]; exact Nat.lt_succ_of_lt lt1
    · cases e : X.base.get? s.heap.objs.size with
      | none => exact e
      | some o => exact absurd (Nat.lt_of_lt_of_le (Heap.lt_size (I.bk _ _ e)) (Nat.le_refl _)) (Nat.lt_irrefl _)
    · refine ⟨_, ns_keep ns1 fun o q => Heap.get?_push_of_some _ q, ?_⟩
      exact bindL_get (P := ["ring"]) (vs := [.ref p]) (i := 0) (by decide) rfl rfl kr
    · exact Nat.ne_of_gt lt1
end
def forB : List Stmt → List Stmt
  | (.For _ _ b _ _) :: _ => b
  | _ => []
def forP : List Stmt → Pos
  | (.For (.Name _ p) _ _ _ _) :: _ => p
  | _ => ⟨0, 0, 0, 0⟩
def itEs (K : PySem.W.Frag) (vs : List V) (H : Hp) (RI : It → Hp → Prop) : Prop := ∃ (p : Addr) (as : List Addr), vs = [.ref p] ∧ RI (ItEs K p as) H
def iEs (K : PySem.W.Frag) (ta : TA) : TI := fun σ H RI => ta σ H fun vs H1 => itEs K vs H1 RI
theorem fpH {X : Cx} {pins : List (Addr × Obj)} {H H' : Hp} {b : Addr} (f : FpOk X pins H b) (h : H' b = none) : FpOk X pins H' b := ⟨h, f.2⟩
theorem setGen_twice {s : Shared} {h : Heap} {tk g : Nat} {x y : GenState} : ({ s.setGen g x with heap := h, toks := tk } : Shared).setGen g y = { ({ s with heap := h, toks := tk } : Shared) with gens := (s.gens.setIfInBounds g y) } := by
  unfold Shared.setGen
  simp
theorem ps_forEs {X : Cx} {tg e : Expr} {body fb yb : List Stmt} {f : Addr} {fd : FuncData} {pk pn pc pos : Pos} {ta : TA} {g : TG} {tb : TS} {k : Nat} (D : EsD X.K X.mg f fd fb yb pk) (hr : Room k X.A) (kp : PySem.W.keepIn X.K (.ref f) = true) (hg : Gl X "each_side") (hc : X.calm = true)
    (ha : PA X.nox [e] ta) (hgt : PG X.nox tg g) (hbd : PSs X.nox body tb) (he : starEach [e] X.env = (false, eval e X.env) :: starEach [] X.env := by rfl) : PS X.nox (.For tg (.Call (.Name "each_side" pn) [e] [] pc) body [] pos) (tFor (iEs X.K ta) g tb) := by
  refine ⟨fun pins s σ H D0 I h => ?_⟩
  refine wpAny_For ?_ (by intro _; rfl)
  refine wpAny_Call_Name_kw (ld_glob I hg D.mgf ?_)
  refine PySem.W.callWith_K (h₀ := X.base) I.ok.mod.kin kp (thn (ha.run pc pins s σ H _ I h) fun us s1 ⟨vs, H1, I1, r1, q1⟩ => ⟨I1.kIn, ?_⟩) he rfl
  obtain ⟨p, as, rfl, W, ⟨m0, w0⟩, turn⟩ := q1
  obtain ⟨u, rfl, rx⟩ := vals1 r1
  obtain rfl : u = Value.ref p := rx
  refine made_es (X := X.nox) D hr I1 fun a gn env s2 I2 M => ?_
  refine wpAny_pyIter_gen M.isg ?_
  have sq0 : Sq2 X.K H1 p (as.map V.ref) := by rcases turn 0 m0 σ H1 w0 with ⟨⟨q, _⟩, _⟩ | ⟨⟨q, _⟩, _⟩ <;> exact q
  obtain ⟨rg0, hz⟩ := rg_of (X := X.nox) I2 sq0
  have hz2 : (as.map Value.ref).length < 2 ^ 62 := by
    rw [List.length_map]
    exact Nat.lt_of_le_of_lt hz (by decide)
  obtain ⟨it, hit⟩ : ∃ it, s2.heap.objs.size + 1 = it := ⟨_, rfl⟩
  have hh : X.A.handled = none := I.ok.hd hc
  obtain ⟨mN, ns1, ns2⟩ := M.ns
  have hps : p < s2.heap.objs.size := by
    rcases rg0 with ⟨o, ho, _⟩ | ⟨o, ho, _⟩ <;> exact Heap.lt_size ho
  have hpL : p ≠ env.locals := fun z => by
    obtain ⟨o, es, ep, q1, q2, _⟩ := ns1
    rw [← z] at q1
    rcases rg0 with ⟨o', ho, _, n, hd⟩ | ⟨o', ho, _, n, hd⟩ <;> (rw [q1] at ho; cases ho; rw [q2] at hd; cases hd)
  obtain ⟨pr, q1, q2, q3, pc2, pf, hfb⟩ := D.fb_
  obtain ⟨p1, p2, p3, p4, p5, p6, p7, p8, p9, p10, p11, p12, p13, yp, ep, j1, j2, hyb⟩ := D.yb_
  have st0 : GenState.Goes (model X.prog X.w) X.A.in1 (RE env.locals it) (YE X.base env.locals it p (as.map Value.ref)) as.length (.fresh (.func fb env)) (.send .none) (s2.setGen gn .running) := by
    have := es_start (prog := X.prog) (w := X.w) (A := X.A.in1) (s := s2.setGen gn .running) (it := it) (its := as.map Value.ref) (kv := mN "k") M.x fb yb hfb hyb hh M.co M.it M.lt hps hpL M.bL (Nat.le_trans I2.ok.bsz I2.sz) hit hz2 ⟨⟨mN, ns1, ns2, rfl⟩, I2.bk, rg0⟩
    rw [List.length_map] at this
    exact ⟨rfl, this⟩
  have fit : FpOk X.nox pins H1 it := I2.fpOk (by rw [← hit]; exact Nat.le_succ _) (I2.hok.fresh (by rw [← hit]; exact Nat.le_succ _))
  have hai : a ≠ it := fun z => by
    obtain ⟨o, _, _, ho, _⟩ := M.isg
    have := Heap.lt_size ho
    rw [z, ← hit] at this
    exact Nat.lt_irrefl _ (Nat.lt_of_succ_lt this)
  refine codeAny_forLoop_any (fun n s' => ∃ i σ' H' gs, Inv X.nox pins σ' H' s' ∧ s'.heap.IsGen a gn ∧ s'.gens[gn]? = some gs ∧ FpOk X.nox pins H' a ∧ FpOk X.nox pins H' env.locals ∧ FpOk X.nox pins H' it ∧
    GenState.Goes (model X.prog X.w) X.A.in1 (RE env.locals it) (YE X.base env.locals it p (as.map Value.ref)) (as.length - i) gs (.send .none) (s'.setGen gn .running) ∧ i ≤ as.length ∧ W i n σ' H') ?_ m0 ⟨0, σ, H1, _, I2, M.isg, M.gs, M.fa, M.fL, fit, st0, Nat.zero_le _, w0⟩
  rintro n s3 ⟨i, σ3, H3, gs, I3, hIG, hgs, fa, fL, fi, hgo, hle, w3⟩
  have hpi : p ≠ it := by rw [← hit]; exact Nat.ne_of_lt (Nat.lt_succ_of_lt hps)
  have hbi : X.base.get? it = none := by
    cases e : X.base.get? it with
    | none => rfl
    | some o => exact absurd (Nat.lt_of_lt_of_le (Heap.lt_size e) (Nat.le_trans I2.ok.bsz I2.sz)) (by rw [← hit]; exact Nat.not_lt.mpr (Nat.le_succ _))
  have bne : ∀ b o, X.base.get? b = some o → b ≠ env.locals ∧ b ≠ it := fun b o q => ⟨(fun z => by rw [z, M.bL] at q; cases q), (fun z => by rw [z, hbi] at q; cases q)⟩
  rcases turn i n σ3 H3 w3 with ⟨⟨sq, stop⟩, qn⟩ | ⟨⟨sq, go⟩, N, hN, step⟩
  · have h0 : as.length - i = 0 := Nat.sub_eq_zero_of_le stop
    rw [h0] at hgo
    refine wpAny_mono (E := fun _ _ => False) ?_ (fun _ _ z => z) (fun _ _ z => z.elim)
    refine wpAny_bare I3.bare ?_
    refine nextS (P := fun n s₀ s => n = 0 ∧ KeepE env.locals it s₀ s) hh I3.nolimit hr.depth hIG hgs hgo (fun v s₁ y hy hYE => ?_) (fun s₁ hp h' ext hb => ?_)
    · obtain ⟨i', t, xv, yv, e1, hx, hy', rfl, hsz, ht, ⟨_, kpp⟩, oL, oi, tL, ti, hkap⟩ := hYE
      have := hkap s₁ (fun b o _ q => q) ((rg_of (X := X.nox) I3 sq).1.at fun o q => kpp p o hpL hpi q) (fun b o q => kpp b o (bne b o q).1 (bne b o q).2 (I3.bk b o q))
      exact (show False from this).elim
    · obtain ⟨_, ⟨h1, tk1, es⟩, kpp⟩ := hp
      refine wpAny_execs_nil ⟨σ3, H3, ?_, qn⟩
      have := inv_turn (X := X.nox) (s₁ := { s₁ with heap := h' }) (G := ({ s₁.setGen gn .finished with heap := h' } : Shared).gens) I3 fL fi (fun b o h1 h2 q => ext b o (kpp b o h1 h2 q)) (by rw [es]; rfl) hb
      exact this
  · obtain ⟨m, hm⟩ : ∃ m, as.length - i = m + 1 := ⟨as.length - i - 1, by have : i < as.length := go; omega⟩
    rw [hm] at hgo
    refine wpAny_mono (E := fun _ _ => False) ?_ (fun _ _ z => z) (fun _ _ z => z.elim)
    refine wpAny_bare I3.bare ?_
    refine nextS (P := fun n s₀ s => n = 0 ∧ KeepE env.locals it s₀ s) hh I3.nolimit hr.depth hIG hgs hgo (fun v s₁ y hy hYE hb => ?_) (fun s₁ hp => by cases hp.1)
    obtain ⟨i', t, xv, yv, e1, hx, hy', rfl, hsz, ht, ⟨⟨h1, tk1, es⟩, kpp⟩, oL, oi, tL, ti, hkap⟩ := hYE
    have hii : i' = i := by
      have e2 : m + 1 - 1 + (i' + 1) = (as.map Value.ref).length := e1
      rw [List.length_map] at e2
      omega
    subst hii
    rw [List.getElem?_map] at hx hy'
    rw [List.length_map] at hy'
    obtain ⟨ax, hax, rfl⟩ := Option.map_eq_some_iff.mp hx
    obtain ⟨ay, hay, rfl⟩ := Option.map_eq_some_iff.mp hy'
    have htn : H3 t = none := I3.hok.fresh hsz
    have I4 : Inv X.nox pins σ3 (upd H3 t (.tup [.ref ax, .ref ay])) (s₁.setGen gn y) := inv_turnT (X := X.nox) (s₁ := s₁) (G := (s₁.setGen gn y).gens) (us := [.ref ax, .ref ay]) I3 fL fi kpp (by rw [es]; rfl) hb hsz ht (.cons rfl (.cons rfl .nil)) (by show 2 ≤ sizeLine; decide)
    obtain ⟨oa, na, qa, ha1, ha2, ha3, ha4⟩ := hIG
    have ha1' : s₁.heap.get? a = some oa := kpp a oa M.aL hai ha1
    have hat : a ≠ t := fun z => by
      rw [z] at ha1
      exact Nat.lt_irrefl _ (Nat.lt_of_lt_of_le (Heap.lt_size ha1) hsz)
    have f4 : ∀ b, FpOk X.nox pins H3 b → b ≠ t → FpOk X.nox pins (upd H3 t (.tup [.ref ax, .ref ay])) b := fun b fb hb => fpH fb (by rw [upd_ne hb]; exact fb.1)
    refine go_of (n := "generator") ha1' ha2 ha3 (by decide) ?_
    have hf : ∀ b ∈ [a, env.locals, it], FpOk X.nox pins (upd H3 t (.tup [.ref ax, .ref ay])) b := fun b hb => by
      have e : b = a ∨ b = env.locals ∨ b = it := by simpa using hb
      rcases e with z | z | z
      · rw [z]; exact f4 _ fa hat
      · rw [z]; exact f4 _ fL (Ne.symm tL)
      · rw [z]; exact f4 _ fi (Ne.symm ti)
    have hob : ∀ b ∈ [a, env.locals, it], ∃ o, (s₁.setGen gn y).heap.get? b = some o ∧ ∀ v, o.data ≠ .cell v := fun b hb => by
      have e : b = a ∨ b = env.locals ∨ b = it := by simpa using hb
      rcases e with z | z | z
      · rw [z]; exact ⟨oa, ha1', fun v z => by rw [ha3] at z; cases z⟩
      · rw [z]; exact oL
      · rw [z]; exact oi
    have I5 := I4.pinned hf hob
    have gy : (s₁.setGen gn y).gens[gn]? = some y := by
      have hl : gn < s3.gens.size := (Array.getElem?_eq_some_iff.mp hgs).1
      rw [es]
      simp [Shared.setGen, hl]
    refine wpAny_mono (E := fun _ _ => False) ?_ (fun _ _ z => z) (fun _ _ z => z.elim)
    refine run_calm I5 (fun z Iz _ => hgt.run _ z σ3 _ (.ref t) (.ref t) _ Iz rfl (step (.ref t) _ ⟨t, ax, ay, rfl, htn, rfl, hax, hay⟩)) fun _ z6 G6 q6 hb6 hk6 => ?_
    obtain ⟨σ6, H6, I6, q6⟩ := q6
    have I6' := inv_gens I6 (hb6 I6.bare)
    refine wpAny_mono (E := fun _ _ => False) ?_ (fun _ _ z => z) (fun _ _ z => z.elim)
    refine run_calm I6' (fun z Iz _ => hbd.run _ z σ6 H6 _ Iz q6) fun fl z7 G7 q7 hb7 hk7 => ?_
    have again : ∀ {σ7 : L2.St} {H7 : Hp}, Inv X.nox (pins ++ pinsAt [a, env.locals, it] (s₁.setGen gn y).heap) σ7 H7 z7 → N σ7 H7 → ∃ m', m' < n ∧ ∃ i σ' H' gs, Inv X.nox pins σ' H' { z7 with gens := G7 } ∧ z7.heap.IsGen a gn ∧ G7[gn]? = some gs ∧ FpOk X.nox pins H' a ∧ FpOk X.nox pins H' env.locals ∧ FpOk X.nox pins H' it ∧
        GenState.Goes (model X.prog X.w) X.A.in1 (RE env.locals it) (YE X.base env.locals it p (as.map Value.ref)) (as.length - i) gs (.send .none) (({ z7 with gens := G7 } : Shared).setGen gn .running) ∧ i ≤ as.length ∧ W i m' σ' H' := fun {σ7 H7} I7 n7 => by
      obtain ⟨m', hm', w7⟩ := hN σ7 H7 n7
      have pin : ∀ b ∈ [a, env.locals, it], ∀ o, s₁.heap.get? b = some o → z7.heap.get? b = some o ∧ H7 b = none := fun b hb o q => by
        have := I7.pin (b, o) (List.mem_append_right _ (List.mem_append_right _ (mem_pinsAt hb q)))
        exact ⟨this.1, this.2.1⟩
      have sq7 : Sq2 X.K H7 p (as.map V.ref) := by rcases turn (i' + 1) m' σ7 H7 w7 with ⟨⟨q, _⟩, _⟩ | ⟨⟨q, _⟩, _⟩ <;> exact q
      obtain ⟨oL0, hoL, _⟩ := oL
      obtain ⟨oi0, hoi, _⟩ := oi
      refine ⟨m', hm', i' + 1, σ7, H7, y, inv_gens I7.unpinned (hb7 I7.bare), ⟨oa, na, qa, (pin a (by simp) oa ha1').1, ha2, ha3, ha4⟩, hk7 gn y (hk6 gn y gy hy) hy, fpH fa (pin a (by simp) oa ha1').2, fpH fL (pin _ (by simp) _ hoL).2, fpH fi (pin _ (by simp) _ hoi).2, ?_, go, w7⟩
      have hgo2 := hkap (({ z7 with gens := G7 } : Shared).setGen gn .running) (fun b o hb q => (pin b (by rcases hb with z | z <;> simp [z]) o q).1) (rg_of (X := X.nox) I7 sq7).1 (fun b o q => I7.bk b o q)
      have e3 : as.length - (i' + 1) = m := by omega
      rw [e3]
      exact hgo2
    cases fl with
    | next => obtain ⟨σ7, H7, I7, n7⟩ := q7; exact again I7 n7
    | cont => obtain ⟨σ7, H7, I7, n7⟩ := q7; exact again I7 n7
    | brk => obtain ⟨σ7, H7, I7, q7⟩ := q7; exact ⟨σ7, H7, inv_gens I7.unpinned (hb7 I7.bare), q7⟩
    | ret v => obtain ⟨x7, σ7, H7, I7, r7, q7⟩ := q7; exact ⟨x7, σ7, H7, inv_gens I7.unpinned (hb7 I7.bare), r7, q7⟩
end GFr

set_option Elab.async false
set_option linter.all false
set_option maxRecDepth 100000
set_option maxHeartbeats 2000000
/-! MirG: for a, b in each_side(ring), in worlds. -/
namespace Mr
open PySem PySem.Spec PyProof.Rows L2 GFr
theorem gIEs {K : PySem.W.Frag} {t : TA} {σ : L2.St} {H : Hp} {RI : It → Hp → Prop} (h : t σ H fun vs H1 => itEs K vs H1 RI) : iEs K t σ H RI := h
section
variable {α τ ρ : Type} {r : R α} {K : PySem.W.Frag} {G H : Hp} {O : Own} {v : V} {xs : List α} {s0 : τ} {res : Fl τ ρ} {g : TG} {tb : TS} {D : Ends} {σ : L2.St}
/-- it relates references only -/
def RfR (r : R α) : Prop := ∀ G v x, r.rel G v x → ∃ a, v = V.ref a
theorem rf_P2 {β γ : Type} {r0 : R β} {r1 : R γ} : RfR (rP2 K r0 r1) := fun G v x ⟨p, _, _, e, _⟩ => ⟨p, e⟩
theorem al_refs (hr : RfR r) : ∀ {vs : List V} {xs : List α}, Al r G vs xs → ∃ as : List Addr, vs = as.map V.ref
  | [], [], _ => ⟨[], rfl⟩
  | _ :: _, _ :: _, h => by
    obtain ⟨a, rfl⟩ := hr _ _ _ h.1
    obtain ⟨as, rfl⟩ := al_refs hr h.2
    exact ⟨a :: as, rfl⟩
  | [], _ :: _, h => h.elim
  | _ :: _, [], h => h.elim
theorem walk_es {p : Addr} {as : List Addr} : Walk (ItEs K p as) as.length (fun H => Sq2 K H p (as.map V.ref)) (YPair (fun i => (as.map V.ref)[i]?) (fun i => (as.map V.ref)[(i + 1) % as.length]?)) := by
  refine ⟨fun i H hi q => ⟨q, hi⟩, fun H q => ⟨q, Nat.le_refl _⟩, fun i H v H' _ q y => ?_⟩
  obtain ⟨T, x, y, h1, h2, h3, h4, h5⟩ := y
  exact ⟨T, .ref x, .ref y, h1, h2, h3, by dsimp only; rw [List.getElem?_map, h4]; rfl, by dsimp only; rw [List.getElem?_map, h5]; rfl⟩
theorem lp_Es {f : τ → α × α → Option (Bf τ ρ)} {i1 i2 : Nat} (hr : RfR r) (S : Sub G O H) (h : (rQ K r).rel G v xs) (hm : forL f (sidesM xs) s0 = some res) (I : τ → L2.St → Hp → Prop) (h0 : I s0 σ H) (hG : ∀ s σ H, I s σ H → Ext G H)
    (hs : ∀ (i : Nat) (x y : α) (s : τ) (b : Bf τ ρ), f s (x, y) = some b → conL f ((sidesM xs).drop (i + 1)) b = some res → ∀ w1 w2 σ H H', I s σ H → (∀ G O, Sub G O H → Sub G O H') → r.rel G w1 x → r.rel G w2 y →
      tb { D with nx := PvL f (sidesM xs) res I (i + 1), ct := PvL f (sidesM xs) res I (i + 1), bk := D.nx } ((σ.set i1 (some w1)).set i2 (some w2)) H')
    (hd : ∀ s σ H, res = .nx s → I s σ H → D.nx σ H) :
    itEs K [v] H (LpW (gTup K 2 (gCons (gName i1) (gCons (gName i2) gNil))) tb D σ) := by
  obtain ⟨p, vs, rfl, hq, ha⟩ := h
  obtain ⟨as, rfl⟩ := al_refs hr ha
  have hl := ha.len
  rw [List.length_map] at hl
  refine ⟨p, as, rfl, lp_it walk_es (by rw [sidesM_length, hl]) hm I h0 (fun s σ H hI => hq.imp (sqL_up (hG s σ H hI)) (sqT_up (hG s σ H hI))) (fun i z s b hx hb hr' w σ H H' hI hY => ?_) hd⟩
  obtain ⟨x, y⟩ := z
  obtain ⟨hx1, hx2⟩ := sidesM_get xs hx
  obtain ⟨T, w1, w2, rfl, hT, rfl, hw1, hw2⟩ := hY
  dsimp only at hw1 hw2
  rw [hl] at hw2
  exact ⟨T, _, rfl, .inl (.inl upd_same), rfl, _, _, rfl, _, _, rfl, rfl, hs i x y s b hb hr' w1 w2 σ H _ hI (fun G O S => S.junk hT) (ha.at hx1 hw1) (ha.at hx2 hw2)⟩
end
end Mr

set_option Elab.async false
set_option linter.all false
set_option maxRecDepth 100000
set_option maxHeartbeats 1000000
/-! GenList2: for, within a generator def that a list drains (the layer GS of HandS). -/
namespace GFr
open PySem PySem.Spec PyProof.Rows L2 GenW
def tGFor (wi : TI) (g : TG) (tb : TGn) : TGn := fun D ys σ H => wi σ H fun J H1 => ∃ W : Nat → Nat → List V → L2.St → Hp → Prop, (∃ m, W 0 m ys σ H1) ∧ ∀ i m ys σ H, W i m ys σ H →
  (J.stop i H ∧ D.nx ys σ H) ∨ (J.go i H ∧ ∃ N : List V → L2.St → Hp → Prop, (∀ ys' σ' H', N ys' σ' H' → ∃ m', m' < m ∧ W (i + 1) m' ys' σ' H') ∧ ∀ x H', J.yld i H x H' → g x σ H' fun σ2 H2 => tb { D with nx := N, ct := N, bk := D.nx } ys σ2 H2)
theorem gs_for {X : Cx} {tg iter : Expr} {body : List Stmt} {pos : Pos} {wi : TI} {g : TG} {tb : TGn} (hp : PassesOwn (model X.prog X.w) X.A X.env X.xe) (hc : X.calm = true) (hi : PI X.nox tg iter wi) (hg : PG X.nox tg g) (hb : GSs X body tb)
    (hs : ∀ x, foldedSetIterable iter X.env x = pure x := by intro _; rfl) : GS X (.For tg iter body [] pos) (tGFor wi g tb) := by
  refine ⟨fun A S ip R n ys s₀ c fs K J gd lv s σ H D gc hn k hI ht => ?_⟩
  obtain ⟨acc, cc, r, I⟩ := hI
  refine seg_For hs ?_
  rw [gc.over]
  refine wpAny_mono (hi.run _ s σ H _ (I.wish _) ht) (fun v s1 h1 => wpAny_mono h1 (fun itv s2 h2 => ?_) (fun _ _ z => z.elim)) (fun _ _ z => z.elim)
  obtain ⟨it, fp, tn, J0, H2, rfl, I2, T, st2, f2, W, ⟨m0, w0⟩, turn⟩ := h2
  intro p
  have gl := fun (kk : Result → Sem PySem.Fin) => gc_loop (k := kk) (c' := .forLoop tg (.ref it) body [] X.env) (l := lv []) (kp := []) (p := p) gc rfl rfl
  have hne : ∀ b ∈ fp, b ≠ S := fun b hb z => (f2 b hb).2.2.2.2.2 (S, lstObj acc cc) (List.mem_append_right _ List.mem_cons_self) z.symm
  have stat : ∀ {acc' : Array Value} {cc' : Nat} {H' : Hp}, (∀ b ∈ fp, H' b = none) → ∀ b ∈ fp, FpOk X.nox ((S, lstObj acc' cc') :: ip) H' b := fun {acc' cc' H'} hn b hb => by
    obtain ⟨_, q1, q2, q3, q4, q5⟩ := f2 b hb
    refine ⟨hn b hb, q1, q2, q3, q4, fun q hq => ?_⟩
    rcases List.mem_append.mp hq with z | z
    · exact q5 q (List.mem_append_left _ z)
    · rcases List.mem_cons.mp z with z | z
      · rw [z]; exact Ne.symm (hne b hb)
      · exact q5 q (List.mem_append_right _ (List.mem_cons_of_mem _ z))
  have out : ∀ (n : Nat) (s₀ : Shared) (x : Value) (s' : Shared), X.xe x s' → Seg (model X.prog X.w) A R (GY X S) n s₀ (.forLoop tg (.ref it) body [] X.env) (turnJ X.env x)
      (.ret (fun r => ((match r with | .ok f => (.pure f : Sem Flow) | .error e => .raise e).onRaise (cameBack X.env)).wrap K J gd lv) none (gd false) (lv []) c p [] :: fs) s' := fun n s₀ x s' hx => by
    unfold turnJ
    refine seg_wrap ?_
    rw [(gl _).over]
    refine wpAny_bind (wpAny_mono (hp x s' hx) (fun _ s'' hcb => wpAny_theTreesLotGoes ?_) fun y s'' hcb => ?_)
    · exact seg_leaf (.error x) (seg_cameBack gc k hcb)
    · exact seg_leaf (.error y) (seg_cameBack gc k hcb)
  have loop : ∀ (m i n : Nat) (ys : List V) (s₀ s : Shared) (σ : L2.St) (H : Hp), n + ys.length = sizeLine → W i m ys σ H → GI X S ip ys σ H s → tn i s.heap → (∀ b ∈ fp, H b = none) →
      Seg (model X.prog X.w) A R (GY X S) n s₀ (.forLoop tg (.ref it) body [] X.env) ((model X.prog X.w).den (.forLoop tg (.ref it) body [] X.env))
        (.ret (fun r => ((match r with | .ok f => (.pure f : Sem Flow) | .error e => .raise e).onRaise (cameBack X.env)).wrap K J gd lv) none (gd false) (lv []) c p [] :: fs) s := by
    intro m
    induction m using Nat.strongRecOn with
    | ind m ih =>
      intro i n ys s₀ s σ H hn w hI st hfr
      obtain ⟨acc, cc, r, I⟩ := hI
      refine seg_forLoop ?_
      rw [(gl _).over]
      rcases turn i m ys σ H w with ⟨stop, qn⟩ | ⟨go, N, hN, step⟩
      · refine wpAny_mono (T.done X.nox rfl rfl rfl hc i _ s σ H (fun _ _ => False) (I.wish _) (stat hfr) st stop) (fun rr s4 ⟨hr, I4⟩ => ?_) (fun _ _ z => z.elim)
        subst hr
        refine seg_again rfl ?_
        exact seg_leaf (.ok .next) (k.ok n ys s₀ s4 .next hn ⟨σ, H, ⟨acc, cc, r, I4.unwish⟩, qn⟩)
      · refine wpAny_mono (T.item X.nox rfl rfl rfl hc i _ s σ H (fun _ _ => False) (I.wish _) (stat hfr) st go) (fun rr s4 ⟨u, hr, h4⟩ => ?_) (fun _ _ z => z.elim)
        subst hr
        refine wpAny_mono h4 (fun _ s5 ⟨x, H5, I5, r5, y5, st5, fr5⟩ => ?_) (fun _ _ z => z.elim)
        have I5' := I5.pinned (stat fr5) (T.obj _ _ st5)
        refine wpAny_mono (hg.run _ s5 σ H5 x u _ I5' r5 (step x H5 y5)) (fun _ s6 ⟨σ6, H6, I6, q6⟩ => ?_) (fun _ _ z => z.elim)
        have hip : ∀ q ∈ ip ++ pinsAt fp s5.heap, q.1 ≠ S := fun q hq => by
          rcases List.mem_append.mp hq with z | z
          · exact gc.ip q z
          · exact hne q.1 (of_pinsAt z).1
        have G0 := gl (fun r => ((match r with | .ok f => (.pure f : Sem Flow) | .error e => .raise e).onRaise (cameBack X.env)).wrap K J gd lv)
        refine hb.run A S (ip ++ pinsAt fp s5.heap) R n ys s₀ _ _ _ _ id id s6 σ6 H6 _ ⟨G0.pn, hip, G0.apart, G0.over, G0.split, G0.guard, rfl⟩ hn ⟨fun n' ys' s₀' s7 f hn' hsp => ?_, fun n' s₀' e s7 hx => out n' s₀' e s7 hx⟩ ⟨acc, cc, r, I6.unwish⟩ q6
        have back : ∀ {σ7 : L2.St} {H7 : Hp}, GI X S (ip ++ pinsAt fp s5.heap) ys' σ7 H7 s7 → GI X S ip ys' σ7 H7 s7 ∧ tn (i + 1) s7.heap ∧ ∀ b ∈ fp, H7 b = none := fun {σ7 H7} hI7 => by
          obtain ⟨acc7, cc7, r7, I7⟩ := hI7
          have pin : ∀ b ∈ fp, ∀ o, s5.heap.get? b = some o → s7.heap.get? b = some o ∧ H7 b = none := fun b hb o q => by
            have := I7.pin (b, o) (List.mem_append_right _ (List.mem_cons_of_mem _ (List.mem_append_right _ (mem_pinsAt hb q))))
            exact ⟨this.1, this.2.1⟩
          refine ⟨⟨acc7, cc7, r7, I7.pins_of fun q hq => I7.pin q (List.mem_append_right _ ?_)⟩, T.keep _ _ _ st5 fun b hb o e => (pin b hb o e).1, fun b hb => ?_⟩
          · rcases List.mem_cons.mp hq with z | z
            · rw [z]; exact List.mem_cons_self
            · exact List.mem_cons_of_mem _ (List.mem_append_left _ z)
          · obtain ⟨o, e, _⟩ := T.obj _ _ st5 b hb
            exact (pin b hb o e).2
        have again : ∀ {σ7 : L2.St} {H7 : Hp}, GI X S (ip ++ pinsAt fp s5.heap) ys' σ7 H7 s7 → N ys' σ7 H7 → Seg (model X.prog X.w) A R (GY X S) n' s₀' (.forLoop tg (.ref it) body [] X.env) (.pure (.again (.forLoop tg (.ref it) body [] X.env)))
            (.ret (fun r => ((match r with | .ok f => (.pure f : Sem Flow) | .error e => .raise e).onRaise (cameBack X.env)).wrap K J gd lv) none (gd false) (lv []) c p [] :: fs) s7 := fun {σ7 H7} hI7 n7 => by
          obtain ⟨m', hm', w7⟩ := hN ys' σ7 H7 n7
          obtain ⟨b1, b2, b3⟩ := back hI7
          exact seg_again rfl (ih m' hm' (i + 1) n' ys' s₀' s7 σ7 H7 hn' w7 b1 b2 b3)
        cases f with
        | next => obtain ⟨σ7, H7, I7, n7⟩ := hsp; exact again I7 n7
        | cont => obtain ⟨σ7, H7, I7, n7⟩ := hsp; exact again I7 n7
        | brk =>
          obtain ⟨σ7, H7, I7, q7⟩ := hsp
          exact seg_leaf (.ok .next) (k.ok n' ys' s₀' s7 .next hn' ⟨σ7, H7, (back I7).1, q7⟩)
        | ret v =>
          obtain ⟨x7, σ7, H7, I7, r7, q7⟩ := hsp
          exact seg_leaf (.ok (.ret v)) (k.ok n' ys' s₀' s7 (.ret v) hn' ⟨x7, σ7, H7, (back I7).1, r7, q7⟩)
  exact loop m0 0 n ys s₀ s2 σ H2 hn w0 ⟨acc, cc, r, I2.unwish⟩ st2 fun b hb => (f2 b hb).1
end GFr

set_option Elab.async false
set_option linter.all false
set_option maxRecDepth 100000
set_option maxHeartbeats 2000000
/-! MirL: list(each_side(tuple)), in worlds. -/
namespace Mr
open PySem PySem.Spec PyProof.Rows L2 GFr
theorem FunD_gok {P : Program} {w : World} {K : PySem.W.Frag} {mg : Str → Option Value} {base : Heap} {x qual : Str} {params : Arguments} {body : List Stmt} {scope : Scope} {dvs : List V} {kws : List (Str × V)} {f : Addr} {fd : FuncData}
    {N ps : List Str} {k : Nat} {sp : SpG} (F : FunD K x qual params body scope dvs kws f fd) (S : GScope N ps scope) (len : ∀ vs H Q E, sp vs H Q E → vs.length = ps.length)
    (hbody : ∀ (cdv : Value) (A : Around) (outer : List Env) (s : Shared) (H : Hp) (vs : List V) (Q : List V → Hp → Prop) (E : XK) (pn : List (Addr × Obj)), Room k (A.deeper (envOfC qual scope s.heap.objs.size f cdv)) → sp vs H Q E →
      ∃ t, GSs (gcxOf P w K mg base N qual scope f cdv A outer s H E pn) body t ∧ t { nx := fun ys _ H' => Q ys H', rt := fun ys v H' => v = .non ∧ Q ys H' } [] (start N vs) H) : GFn P w K mg base (k + 1) f fd ps sp := by
  obtain ⟨oc, od, dV, kV, doc, pm, an, cdv, ct, osl, rfl, lk, hcd, _, _⟩ := F.ex
  exact gfn_of lk hcd S len fun A outer s H vs Q E pn hr hsp => hbody cdv A outer s H vs Q E pn hr hsp
def spEs (K : PySem.W.Frag) : SpG := fun vs H Q _ => ∃ (α : Type) (r : R α) (G : Hp) (O : Own) (v : V) (xs : List α), vs = [v] ∧ Sub G O H ∧ (rT K r).rel G v xs ∧ xs.length ≤ 100000 ∧ ∀ G' H' ys, Ext G G' → Sub G' O H' → Al (rP2 K r r) G' ys (sidesM xs) → Q ys H'
/-- the body's reading -/
abbrev tEs (K : PySem.W.Frag) : TGn := tGThen (tGFor (iRng1 (tCons (tCB (rLenM K) (tCons (tVar 0) tNil)) tNil)) (gName 1)
  (tGThen (tGYield (tTup (tCons (tOp (rIxT K) (tVar 0) (tVar 1)) (tCons (tOp (rIxT K) (tVar 0) (tOp (rI (fun _ j => 0 < j) fun i j => .int (i % j)) (tOp (rI0 fun i j => .int (i + j)) (tVar 1) (tC (.int 1))) (tCB (rLenM K) (tCons (tVar 0) tNil)))) tNil)))) tG0)) tG0
def LpG (g : TG) (tb : TGn) (D : GEnds) (ys : List V) (σ : L2.St) (J : It) (H : Hp) : Prop := ∃ W : Nat → Nat → List V → L2.St → Hp → Prop, (∃ m, W 0 m ys σ H) ∧ ∀ i m ys σ H, W i m ys σ H →
  (J.stop i H ∧ D.nx ys σ H) ∨ (J.go i H ∧ ∃ N : List V → L2.St → Hp → Prop, (∀ ys' σ' H', N ys' σ' H' → ∃ m', m' < m ∧ W (i + 1) m' ys' σ' H') ∧ ∀ x H', J.yld i H x H' → g x σ H' fun σ2 H2 => tb { D with nx := N, ct := N, bk := D.nx } ys σ2 H2)
theorem gGFor {wi : TI} {g : TG} {tb u : TGn} {D : GEnds} {ys : List V} {σ : L2.St} {H : Hp} (h : wi σ H (LpG g tb { D with nx := fun ys' σ' H' => u D ys' σ' H' } ys σ)) : tGThen (tGFor wi g tb) u D ys σ H := h
theorem gGYield {te : TE} {u : TGn} {D : GEnds} {ys : List V} {σ : L2.St} {H : Hp} (hl : ys.length < sizeLine) (h : te σ H fun x H1 => u D (ys ++ [x]) σ H1) : tGThen (tGYield te) u D ys σ H := ⟨hl, h⟩
theorem gG0 {D : GEnds} {ys : List V} {σ : L2.St} {H : Hp} (h : D.nx ys σ H) : tG0 D ys σ H := h
theorem run_es {K : PySem.W.Frag} {α : Type} {r : R α} {G H : Hp} {O : Own} {v : V} {xs : List α} {Q : List V → Hp → Prop} {D : GEnds} {σ1 : Option V} (S : Sub G O H) (h : (rT K r).rel G v xs) (hl : xs.length ≤ 100000)
    (hD : ∀ ys σ H, Q ys H → D.nx ys σ H) (q : ∀ G' H' ys, Ext G G' → Sub G' O H' → Al (rP2 K r r) G' ys (sidesM xs) → Q ys H') : tEs K D [] [some v, σ1] H := by
  refine gGFor ?_
  refine gIR ?_
  refine gCons' ?_
  refine gCB ?_
  refine gCons' ?_
  refine gV rfl ?_
  refine gNil' ?_
  refine q_lenT S h ?_
  refine gNil' ?_
  refine ⟨_, rfl, by omega, by omega, fun i m ys σ H => ∃ G' σ1, Ext G G' ∧ Sub G' O H ∧ Al (rP2 K r r) G' ys ((sidesM xs).take i) ∧ σ = [some v, σ1] ∧ i + m = xs.length, ⟨xs.length, G, σ1, .refl _, S, True.intro, rfl, by omega⟩, fun i m ys σ H hI => ?_⟩
  obtain ⟨G', σ1, e, S1, a, rfl, hm⟩ := hI
  have sl := sidesM_length xs
  by_cases hi : i < xs.length
  · refine .inr ⟨by show i < (xs.length : Int).toNat; omega, _, fun ys' σ' H' (hN : ∃ G' σ1, Ext G G' ∧ Sub G' O H' ∧ Al (rP2 K r r) G' ys' ((sidesM xs).take (i + 1)) ∧ σ' = [some v, σ1]) => ?_, fun x H' hy => ?_⟩
    · obtain ⟨G2, s2, z1, z2, z3, z4⟩ := hN
      exact ⟨m - 1, by omega, G2, s2, z1, z2, z3, z4, by omega⟩
    · obtain ⟨rfl, rfl⟩ := hy
      have al := a.len
      rw [List.length_take, sl] at al
      show tGThen _ _ _ _ [some v, some (V.int (0 + (i : Nat)))] _
      refine gGYield (szl (by omega)) ?_
      have h' := R.up e h
      have g1 : getM xs (0 + (i : Nat)) = some xs[i] := by
        unfold getM ixM
        rw [if_pos (by omega), if_pos (by omega)]
        show xs[(0 + (i : Int)).toNat]? = _
        rw [show (0 + (i : Int)).toNat = i by omega]
        exact List.getElem?_eq_getElem hi
      have j2 : (i + 1) % xs.length < xs.length := Nat.mod_lt _ (by omega)
      have g2 : getM xs (((0 : Int) + (i : Nat) + 1) % (xs.length : Int)) = some xs[(i + 1) % xs.length] := by
        have e1 : ((0 : Int) + (i : Nat) + 1) % (xs.length : Int) = (((i + 1) % xs.length : Nat) : Int) := by
          rw [Int.natCast_emod]; congr 1; omega
        rw [e1]
        unfold getM ixM
        rw [if_pos (by omega), if_pos (by omega)]
        show xs[(((i + 1) % xs.length : Nat) : Int).toNat]? = _
        rw [Int.toNat_natCast]
        exact List.getElem?_eq_getElem j2
      refine gTup' ?_
      refine gCons' ?_
      refine gOp ?_
      refine gV rfl ?_
      refine gV rfl ?_
      refine q_ixT S1 h' g1 fun w1 hw1 => ?_
      refine gCons' ?_
      refine gOp ?_
      refine gV rfl ?_
      refine gOp ?_
      refine gOp ?_
      refine gV rfl ?_
      refine gC ?_
      refine ⟨_, _, rfl, rfl, ?_⟩
      refine gCB ?_
      refine gCons' ?_
      refine gV rfl ?_
      refine gNil' ?_
      refine q_lenT S1 h' ?_
      refine ⟨_, _, rfl, rfl, by omega, ?_⟩
      refine q_ixT S1 h' g2 fun w2 hw2 => ?_
      refine gNil' ?_
      refine ⟨sz2, fun p hp => ?_⟩
      have ex := S1.extNew hp (.tup [w1, w2])
      refine ⟨_, _, e.trans ex, S1.new hp, ?_, rfl⟩
      have hs : (sidesM xs)[i]? = some (xs[i], xs[(i + 1) % xs.length]) := by
        have := sidesM_get xs (List.getElem?_eq_getElem (by omega : i < (sidesM xs).length))
        rw [List.getElem?_eq_getElem (by omega : i < (sidesM xs).length)]
        rw [List.getElem?_eq_getElem hi, List.getElem?_eq_getElem j2] at this
        rw [← Prod.eta (sidesM xs)[i], ← Option.some.inj this.1, ← Option.some.inj this.2]
      rw [List.take_add_one, hs]
      refine (a.up ex).app ⟨?_, True.intro⟩
      exact ⟨p, w1, w2, rfl, .inl (.inl upd_same), R.up ex hw1, R.up ex hw2⟩
  · refine .inl ⟨by show (xs.length : Int).toNat ≤ i; omega, ?_⟩
    refine hD _ _ _ (q _ _ _ e S1 ?_)
    rw [List.take_of_length_le (by omega)] at a
    exact a
def mkDr (out : List V) (H : Hp) (Q : VK) : Prop := ∀ p, H p = none → Q (.ref p) (upd H p (.lst out))
theorem q_listEs {K : PySem.W.Frag} {α : Type} {r : R α} {G H : Hp} {O : Own} {v : V} {xs : List α} {ys : List (α × α)} {Q : VK} {E : XK} (S : Sub G O H) (h : (rT K r).rel G v xs) (e : sdM xs = some ys)
    (q : ∀ w G' H', Ext G G' → Sub G' O H' → (rM (rP2 K r r)).rel G' w ys → Q w H') : spEs K [v] H (fun out H2 => mkDr out H2 Q) E := by
  obtain ⟨c, rfl⟩ := sdM_some e
  refine ⟨α, r, G, O, v, xs, rfl, S, h, c, fun G' H' ys e1 S1 a p hp => ?_⟩
  have ex := S1.extNew hp (.lst ys)
  exact q _ _ _ (e1.trans ex) (S1.new hp) ⟨p, ys, rfl, upd_same, a.up ex⟩
theorem gListEs {K : PySem.W.Frag} {t : TA} {E : XK} {σ : L2.St} {H : Hp} {Q : VK} (h : t σ H fun vs H1 => spEs K (vs ++ []) H1 (fun out H2 => mkDr out H2 Q) E) : tListG (tCallG (spEs K) [] E t) σ H Q := h
theorem pe_listEs {X : Cx} {f : Addr} {fd : FuncData} {p p2 pos pos' : Pos} {e : Expr} {es : List Expr} {t : TA} {n : Nat} {K : PySem.W.Frag} (hr : Room n X.A) (hn : 4 ≤ n) (F : GFn X.prog X.w X.K X.mg X.base 1 f fd ["ring"] (spEs K)) (hg2 : Gl X "each_side") (hm : X.mg "each_side" = some (.ref f)) (hk : PySem.W.keepIn X.K (.ref f) = true) (hb : Binds X.K fd ["ring"] [])
    (hg : Gl X "list") (hmg : X.mg "list" = none) (ha : PA X (e :: es) t) (he : starEach (e :: es) X.env = (false, eval e X.env) :: starEach es X.env := by rfl) (hpl : (backTo pos' (starEach es X.env)).any (·.1) = false := by rfl)
    (he2 : starEach [.Call (.Name "each_side" p) (e :: es) [] pos'] X.env = (false, eval (.Call (.Name "each_side" p) (e :: es) [] pos') X.env) :: starEach [] X.env := by rfl) :
    PE X (.Call (.Name "list" p2) [.Call (.Name "each_side" p) (e :: es) [] pos'] [] pos) (tListG (tCallG (spEs K) [] (fun _ _ _ => False) t)) :=
  pe_listG (E := fun _ _ _ => False) (pgen_call F (hr.mono (by omega)) hg2 hm hk hb .nil ha (by decide) he hpl) (fun _ _ _ _ _ _ _ h => by obtain ⟨_, _, _, _, _, _, _, _, _, _, _, _, z⟩ := h; exact z.elim) (fun _ _ _ z => z.elim) (hr.mono (by omega)) hg hmg rfl (by decide) (by decide) he2
end Mr

set_option linter.all false
/-! InkP: texts of '#' and '.', as lists of bools. -/
namespace Mr
abbrev Ink := List Bool
def e_Ink (bs : Ink) : PySem.Str := ⟨(bs.map fun b => if b then 35 else 46).toArray⟩
def fndF : Ink → Nat → Int
  | [], _ => -1
  | b :: l, i => if b then (i : Int) else fndF l (i + 1)
def rfnF : Ink → Nat → Int → Int
  | [], _, a => a
  | b :: l, i, a => rfnF l (i + 1) (if b then (i : Int) else a)
def fndI (b : Ink) : Int := fndF b 0
def rfnI (b : Ink) : Int := rfnF b 0 (-1)
def lstI (b : Ink) : Ink := b.dropWhile (!·)
def rstI (b : Ink) : Ink := (b.reverse.dropWhile (!·)).reverse
def fndM (b : Ink) : Option Int := if b.length ≤ 4 then some (fndI b) else none
def rfnM (b : Ink) : Option Int := if b.length ≤ 4 then some (rfnI b) else none
def lstM (b : Ink) : Option Ink := if b.length ≤ 4 then some (lstI b) else none
def rstM (b : Ink) : Option Ink := if b.length ≤ 4 then some (rstI b) else none
def lenI (b : Ink) : Option Int := if b.length ≤ 100000 then some (b.length : Int) else none
def cutI (b : Ink) (lo hi : Option Int) : Option Ink := if b.length ≤ 100000 then some (cutM b lo hi) else none
def getI (b : Ink) (i : Int) : Option Ink := if b.length ≤ 100000 then (getM b i).bind fun x => some [x] else none
def catI (a b : Ink) : Option Ink := if a.length + b.length ≤ 100000 then some (a ++ b) else none
def joinI (xs : List Ink) : Option Ink := if xs.flatten.length ≤ 100000 then some xs.flatten else none
def allI : Nat → List Ink
  | 0 => [[]]
  | n + 1 => (allI n).map (false :: ·) ++ (allI n).map (true :: ·)
def inks4 : List Ink := allI 0 ++ allI 1 ++ allI 2 ++ allI 3 ++ allI 4
theorem mem4I (b : Ink) (h : b.length ≤ 4) : b ∈ inks4 := by
  match b, h with
  | [], _ => decide +kernel
  | [a], _ => cases a <;> decide +kernel
  | [a, b], _ => cases a <;> cases b <;> decide +kernel
  | [a, b, c], _ => cases a <;> cases b <;> cases c <;> decide +kernel
  | [a, b, c, d], _ => cases a <;> cases b <;> cases c <;> cases d <;> decide +kernel
end Mr

set_option Elab.async false
set_option linter.all false
set_option maxRecDepth 100000
set_option maxHeartbeats 2000000
/-! MirS: texts of '#' and '.'. -/
namespace Mr
open PySem PySem.Spec PyProof.Rows L2
theorem inkL_inj : ∀ x y : Ink, (x.map fun b => if b then 35 else 46 : List Nat) = (y.map fun b => if b then 35 else 46) → x = y
  | [], [], _ => rfl
  | [], _ :: _, h => by cases h
  | _ :: _, [], h => by cases h
  | a :: x, b :: y, h => by
    rw [List.map_cons, List.map_cons] at h
    injection h with h1 h2
    rw [inkL_inj x y h2]
    congr 1
    cases a <;> cases b <;> first | rfl | (exfalso; revert h1; decide)
theorem e_Ink_inj : ∀ x y, e_Ink x = e_Ink y → x = y := fun x y h => by
  unfold e_Ink at h
  injection h with h
  exact inkL_inj x y (by simpa using congrArg Array.toList h)
theorem e_Ink_len (b : Ink) : (e_Ink b).length = b.length := by simp [e_Ink, Str.length]
theorem e_Ink_ok : ∀ x, PyData.strOk (e_Ink x) = true := fun x => by
  unfold PyData.strOk e_Ink
  simp
theorem pe_strI {X : Cx} {x : Str} {b : Ink} {j : Nat} {pos : Pos} (h : x = e_Ink b) : PE X (.Constant (.str x) j pos) (tC (.str (e_Ink b))) := h ▸ pe_str
theorem find_ink : ∀ b ∈ inks4, Txt.find (e_Ink b) (e_Ink [true]) = fndI b := by decide +kernel
theorem rfind_ink : ∀ b ∈ inks4, Txt.rfind (e_Ink b) (e_Ink [true]) = rfnI b := by decide +kernel
theorem lst_ink : ∀ b ∈ inks4, Txt.lstripChars (e_Ink b) (e_Ink [false]) = e_Ink (lstI b) := by decide +kernel
theorem rst_ink : ∀ b ∈ inks4, Txt.rstripChars (e_Ink b) (e_Ink [false]) = e_Ink (rstI b) := by decide +kernel
/-! ### rules -/
section
variable {X : Cx} {σ : L2.St} {H : Hp} {Q : VK}
def rFind : V → List V → Hp → VK → Prop := fun x xs H Q => ∃ a b, x = .str a ∧ xs = [.str b] ∧ Q (.int (Txt.find a b)) H
def rRfind : V → List V → Hp → VK → Prop := fun x xs H Q => ∃ a b, x = .str a ∧ xs = [.str b] ∧ Q (.int (Txt.rfind a b)) H
def rLst : V → List V → Hp → VK → Prop := fun x xs H Q => ∃ a b, x = .str a ∧ xs = [.str b] ∧ a.length ≤ sizeLine ∧ Q (.str (Txt.lstripChars a b)) H
def rRst : V → List V → Hp → VK → Prop := fun x xs H Q => ∃ a b, x = .str a ∧ xs = [.str b] ∧ a.length ≤ sizeLine ∧ Q (.str (Txt.rstripChars a b)) H
def rJoin (K : PySem.W.Frag) : V → List V → Hp → VK → Prop := fun x xs H Q => ∃ a p, ∃ ys : List Str, x = .str a ∧ xs = [.ref p] ∧ (SqL K H p (ys.map V.str) ∨ SqT K H p (ys.map V.str)) ∧
      (ys.map (·.length)).sum + ys.length * a.length ≤ 16777216 ∧ Q (.str (Txt.join a ys)) H
def rLenS : List V → Hp → VK → Prop := fun xs H Q => ∃ z, xs = [.str z] ∧ z.length ≤ sizeLine ∧ Q (.int z.length) H
theorem mt_findI : MtR X "str.find" rFind := mt_find
theorem mt_rfindI : MtR X "str.rfind" rRfind := mt_rfind
theorem mt_lstI : MtR X "str.lstrip" rLst := mt_lstripChars
theorem mt_rstI : MtR X "str.rstrip" rRst := mt_rstripChars
theorem mt_joinI {K : PySem.W.Frag} (h : X.K = K) : MtR X "str.join" (rJoin K) := by subst h; exact mt_join
theorem call_lenS : CallR X (.builtin "len") rLenS := call_len_str
theorem gM1 {r : V → List V → Hp → VK → Prop} {to te : TE} (h : to σ H fun x H1 => (∃ a, x = .str a) ∧ te σ H1 fun y H2 => r x [y] H2 Q) : tM1 r to te σ H Q := h
theorem ifS {α : Type} {c : Prop} [Decidable c] {a b : α} (h : (if c then some a else none) = some b) : c ∧ a = b := by
  by_cases k : c
  · rw [if_pos k] at h; exact ⟨k, Option.some.inj h⟩
  · rw [if_neg k] at h; cases h
theorem q_findI {b : Ink} {i : Int} (e : fndM b = some i) (q : Q (.int i) H) : rFind (.str (e_Ink b)) [.str (e_Ink [true])] H Q := by
  obtain ⟨c, rfl⟩ := ifS e
  exact ⟨_, _, rfl, rfl, by rw [find_ink b (mem4I b c)]; exact q⟩
theorem q_rfindI {b : Ink} {i : Int} (e : rfnM b = some i) (q : Q (.int i) H) : rRfind (.str (e_Ink b)) [.str (e_Ink [true])] H Q := by
  obtain ⟨c, rfl⟩ := ifS e
  exact ⟨_, _, rfl, rfl, by rw [rfind_ink b (mem4I b c)]; exact q⟩
theorem q_lstI {b z : Ink} (e : lstM b = some z) (q : Q (.str (e_Ink z)) H) : rLst (.str (e_Ink b)) [.str (e_Ink [false])] H Q := by
  obtain ⟨c, rfl⟩ := ifS e
  exact ⟨_, _, rfl, rfl, by rw [e_Ink_len]; exact sz (by omega), by rw [lst_ink b (mem4I b c)]; exact q⟩
theorem q_rstI {b z : Ink} (e : rstM b = some z) (q : Q (.str (e_Ink z)) H) : rRst (.str (e_Ink b)) [.str (e_Ink [false])] H Q := by
  obtain ⟨c, rfl⟩ := ifS e
  exact ⟨_, _, rfl, rfl, by rw [e_Ink_len]; exact sz (by omega), by rw [rst_ink b (mem4I b c)]; exact q⟩
theorem q_lenI {b : Ink} {n : Int} (e : lenI b = some n) (q : Q (.int n) H) : rLenS [.str (e_Ink b)] H Q := by
  obtain ⟨c, rfl⟩ := ifS e
  exact ⟨_, rfl, by rw [e_Ink_len]; exact sz c, by rw [e_Ink_len]; exact q⟩
theorem q_slI {b z : Ink} {lo hi : Option Int} (e : cutI b lo hi = some z) (q : Q (.str (e_Ink z)) H) : rSlS (.str (e_Ink b)) lo hi H Q := by
  obtain ⟨c, rfl⟩ := ifS e
  refine ⟨_, rfl, by rw [e_Ink_len]; exact sz c, ?_⟩
  have e1 : ∀ n d o, HT.sIx n d o = slIx n d o := fun n d o => by cases o <;> rfl
  have e2 : cutS (e_Ink b) lo hi = e_Ink (cutM b lo hi) := by
    unfold cutS cutM
    rw [e1, e1, e_Ink_len]
    unfold e_Ink
    simp [List.map_take, List.map_drop]
  rw [e2]; exact q
theorem q_ixI {b z : Ink} {i : Int} (e : getI b i = some z) (q : Q (.str (e_Ink z)) H) : rIxS (.str (e_Ink b)) (.int i) H Q := by
  unfold getI at e
  by_cases k : b.length ≤ 100000
  · rw [if_pos k] at e
    obtain ⟨x, e1, e2⟩ := bindS e
    cases e2
    refine ⟨_, i, if x then 35 else 46, rfl, rfl, by rw [e_Ink_len]; exact sz k, ?_, q⟩
    unfold getM at e1
    obtain ⟨j, e3, e4⟩ := bindS e1
    show (ixN (e_Ink b).cps.toList.length i).bind _ = _
    have el : (e_Ink b).cps.toList.length = b.length := by simp [e_Ink]
    rw [el, ← ix_eq, e3]
    show (e_Ink b).cps.toList[j]? = _
    simp [e_Ink, e4]
  · rw [if_neg k] at e; cases e
def rInS : R2 := fun x y H Q => ∃ (c : Nat) (z : Str), x = .str ⟨#[c]⟩ ∧ y = .str z ∧ Q (.bl (decide (c ∈ z.cps.toList))) H
def rNiS : R2 := fun x y H Q => ∃ (c : Nat) (z : Str), x = .str ⟨#[c]⟩ ∧ y = .str z ∧ Q (.bl (!decide (c ∈ z.cps.toList))) H
theorem op_inS : OpR X (compareOp .In) rInS := op_in_sign
theorem op_niS : OpR X (compareOp .NotIn) rNiS := op_notIn_sign
theorem q_inI {b : Ink} (q : Q (.bl (decide (true ∈ b))) H) : rInS (.str (e_Ink [true])) (.str (e_Ink b)) H Q := by
  refine ⟨35, e_Ink b, rfl, rfl, ?_⟩
  have : decide (35 ∈ (e_Ink b).cps.toList) = decide (true ∈ b) := by
    apply decide_eq_decide.mpr
    simp [e_Ink]
  rw [this]; exact q
theorem q_niI {b : Ink} (q : Q (.bl (!decide (true ∈ b))) H) : rNiS (.str (e_Ink [true])) (.str (e_Ink b)) H Q := by
  obtain ⟨c, z, h1, h2, h3⟩ := q_inI (b := b) (H := H) (Q := fun v H => ∃ k, v = V.bl k ∧ Q (.bl (!k)) H) ⟨_, rfl, q⟩
  obtain ⟨k, h4, h5⟩ := h3
  cases h4
  exact ⟨c, z, h1, h2, h5⟩
end
theorem glue_ink : ∀ (xs : List Ink) (acc : Ink), xs.foldl (fun (acc : Array Nat) p => acc ++ (e_Ink []).cps ++ (e_Ink p).cps) (e_Ink acc).cps = (e_Ink (acc ++ xs.flatten)).cps
  | [], acc => by simp
  | x :: xs, acc => by
    rw [List.foldl_cons]
    have e : (e_Ink acc).cps ++ (e_Ink []).cps ++ (e_Ink x).cps = (e_Ink (acc ++ x)).cps := by
      simp [e_Ink]
    rw [e, glue_ink xs (acc ++ x)]
    simp
theorem join_ink (xs : List Ink) : Txt.join (e_Ink []) (xs.map e_Ink) = e_Ink xs.flatten := by
  unfold Txt.join PySem.Builtin.Str.glued
  cases xs with
  | nil => rfl
  | cons x xs =>
    have := glue_ink xs x
    simp only [List.map_cons, List.drop_one, List.tail_cons, List.headD_cons, List.foldl_map, List.flatten_cons]
    rw [this]
theorem al_ink {G : Hp} : ∀ {vs : List V} {xs : List Ink}, Al (rEn e_Ink) G vs xs → vs = (xs.map e_Ink).map V.str
  | [], [], _ => rfl
  | v :: vs, x :: xs, h => by
    have h1 : v = V.str (e_Ink x) := h.1
    rw [h1, al_ink h.2]; rfl
  | [], _ :: _, h => h.elim
  | _ :: _, [], h => h.elim
theorem q_joinI {K : PySem.W.Frag} {G H : Hp} {O : Own} {v : V} {xs : List Ink} {z : Ink} {Q : VK} (S : Sub G O H) (h : (rM (rEn e_Ink)).rel G v xs) (e : joinI xs = some z) (q : Q (.str (e_Ink z)) H) : rJoin K (.str (e_Ink [])) [v] H Q := by
  obtain ⟨c, rfl⟩ := ifS e
  obtain ⟨p, vs, rfl, hp, ha⟩ := h
  have hv := al_ink ha
  subst hv
  refine ⟨_, p, xs.map e_Ink, rfl, rfl, .inl (sqL_up S.ext (.inl (.inl hp))), ?_, ?_⟩
  · have e1 : ((xs.map e_Ink).map (·.length)).sum = xs.flatten.length := by
      rw [List.length_flatten, List.map_map]
      congr 1
      apply List.map_congr_left
      intro a _
      exact e_Ink_len a
    rw [e1, e_Ink_len]
    show xs.flatten.length + (xs.map e_Ink).length * 0 ≤ _
    omega
  · rw [join_ink]; exact q
/-! ### None or an int -/
def dOI {K : PySem.W.Frag} : RD K (Option Int) := ⟨rO rInt, fun x => match x with
    | none => .none
    | some y => (dInt (K := K)).enc y, 2, fun _ => true,
  fun x h => by
    cases x with
    | none => rfl
    | some y => rfl,
  fun x => by
    cases x with
    | none => simp [PyData.depth]
    | some y => exact Nat.le_succ_of_le ((dInt (K := K)).dpt y),
  fun {H v x} h => by
    cases x with
    | none => cases (show v = .non from h); exact .non
    | some y => exact (dInt (K := K)).dp h.2,
  fun x y => by
    cases x with
    | none =>
      cases y with
      | none => rfl
      | some y => rfl
    | some x =>
      cases y with
      | none => rfl
      | some y =>
        show PyData.eqv ((dInt (K := K)).enc x) ((dInt (K := K)).enc y) = _
        rw [(dInt (K := K)).eqv]
        by_cases e : x = y
        · subst e; simp
        · simp [e]⟩
theorem okOI {K : PySem.W.Frag} : ∀ x, (dOI (K := K)).ok x = true := fun _ => rfl
end Mr

set_option Elab.async false
set_option linter.all false
set_option maxRecDepth 100000
set_option maxHeartbeats 2000000
/-! ZipG: zip of any two of lists, tuples, texts. -/
namespace Mr
open PySem PySem.Spec PyProof.Rows L2
/-- what is walked -/
inductive Sr where
  | list (a : Addr)
  | tup (a : Addr)
  | txt (x : Str)
namespace Sr
def v : Sr → V
  | .list a => .ref a
  | .tup a => .ref a
  | .txt x => .str x
def chs (x : Str) : List V := x.cps.toList.map fun c => .str ⟨#[c]⟩
def has (K : PySem.W.Frag) (H : Hp) (xs : List V) : Sr → Prop
  | .list a => SqL K H a xs
  | .tup a => SqT K H a xs
  | .txt x => xs = chs x
def cell : Sr → List Addr
  | .list a => [a]
  | .tup a => [a]
  | .txt _ => []
def obj (t : Tok) : Sr → Obj
  | .list a => { cls := .type "list_iterator", data := .fields #[.ref a, .int 0 0] }
  | .tup a => { cls := .type "tuple_iterator", data := .fields #[.ref a, .int 0 0] }
  | .txt x => { cls := .type (strIterType x), data := .fields #[.str x t, .int 0 0] }
def st (t : Tok) (it : Addr) (i : Nat) (h : Heap) : Sr → Prop
  | .list a => h.IsListIter it a i
  | .tup a => h.IsTupleIter it a i
  | .txt x => h.IsStrIter it (strIterType x) x t i
theorem has_up {K : PySem.W.Frag} {G H : Hp} {xs : List V} (e : Ext G H) : ∀ {r : Sr}, r.has K G xs → r.has K H xs
  | .list _, h => sqL_up e h
  | .tup _, h => sqT_up e h
  | .txt _, h => h
section
variable {X : Cx} {pins : List (Addr × Obj)} {σ : L2.St} {H : Hp} {s : Shared} {h h' : Heap} {r : Sr} {xs ys : List V} {t : Tok} {it : Addr} {i : Nat}
theorem has_inj (I : Inv X pins σ H s) (h1 : r.has X.K H xs) (h2 : r.has X.K H ys) : xs = ys := by
  cases r with
  | list a => exact I.list_inj h1 h2
  | tup a => exact I.tuple_inj h1 h2
  | txt x => exact (show xs = chs x from h1).trans (show ys = chs x from h2).symm
theorem st_obj (h1 : r.st t it i h) : ∃ o, h.get? it = some o ∧ ∀ v, o.data ≠ .cell v := by
  cases r with
  | list a => obtain ⟨o, e, _, d⟩ := h1; exact ⟨o, e, fun v z => by rw [d] at z; cases z⟩
  | tup a => obtain ⟨o, e, _, d⟩ := h1; exact ⟨o, e, fun v z => by rw [d] at z; cases z⟩
  | txt x => obtain ⟨o, e, _, d⟩ := h1; exact ⟨o, e, fun v z => by rw [d] at z; cases z⟩
theorem st_at (h1 : r.st t it i h) (k : ∀ o, h.get? it = some o → h'.get? it = some o) : r.st t it i h' := by
  cases r with
  | list a => exact Heap.IsListIter.at h1 k
  | tup a => exact Heap.IsTupleIter.at h1 k
  | txt x => obtain ⟨o, e, q⟩ := h1; exact ⟨o, k o e, q⟩
theorem st_new (h1 : h.get? it = some (r.obj t)) : r.st t it 0 h := by
  cases r with
  | list a => exact ⟨_, h1, rfl, rfl⟩
  | tup a => exact ⟨_, h1, rfl, rfl⟩
  | txt x => exact ⟨_, h1, rfl, rfl⟩
theorem vals_at {its : List Value} (rv : Vals xs its) {v : Value} (hv : its[i]? = some v) : ∃ x, xs[i]? = some x ∧ RelV x v := by
  have hl := rv.length
  have hi : i < its.length := (List.getElem?_eq_some_iff.mp hv).1
  have hx : xs[i]? = some (xs[i]'(by omega)) := List.getElem?_eq_getElem (by omega)
  obtain ⟨u, e1, e2⟩ := rv.get hx
  rw [hv] at e1
  cases e1
  exact ⟨_, hx, e2⟩
/-- what its iterator draws -/
theorem draws (I : Inv X pins σ H s) {A : Around} (hh : A.handled = none) (hq : r.has X.K H xs) (t : Tok) (hne : ∀ c ∈ r.cell, c ≠ it) :
    ∃ (P : Nat → Value → Prop) (St : Nat → Heap → Prop), Draws X.prog X.w A it (it :: r.cell) xs.length P St ∧ (∀ i h, St i h → r.st t it i h) ∧ (∀ i, r.st t it i s.heap → St i s.heap) ∧
      ∀ i v, P i v → ∃ x, xs[i]? = some x ∧ RelV x v := by
  cases r with
  | list a =>
    obtain ⟨its, rv, p, hz⟩ := I.list hq
    have D := Draws.list (prog := X.prog) (w := X.w) hh it a (hne a (List.mem_cons_self ..)) its.toArray
    have e : its.toArray.size = xs.length := by rw [List.size_toArray]; exact rv.length.symm
    rw [e] at D
    exact ⟨_, _, D, fun i h q => q.1, fun i q => ⟨q, p.isList⟩, fun i v q => vals_at rv (by simpa using q)⟩
  | tup a =>
    obtain ⟨its, rv, p, hz⟩ := I.tuple hq
    have D := Draws.tuple (prog := X.prog) (w := X.w) hh it a (hne a (List.mem_cons_self ..)) its.toArray
    have e : its.toArray.size = xs.length := by rw [List.size_toArray]; exact rv.length.symm
    rw [e] at D
    exact ⟨_, _, D, fun i h q => q.1, fun i q => ⟨q, p⟩, fun i v q => vals_at rv (by simpa using q)⟩
  | txt x =>
    have D := Draws.text (prog := X.prog) (w := X.w) hh it x t
    have hq : xs = chs x := hq
    subst hq
    have e : x.cps.size = (chs x).length := by simp [chs]
    rw [e] at D
    refine ⟨_, _, D, fun i h q => q, fun i q => q, fun i v q => ?_⟩
    obtain ⟨c, u, hc, rfl⟩ := q
    exact ⟨.str ⟨#[c]⟩, by simp [chs, hc], u, rfl⟩
/-- its iterator is made -/
theorem begins (I : Inv X pins σ H s) (hq : r.has X.K H xs) {u : Value} (ru : RelV r.v u) : ∃ (t : Tok) (P : Heap → Prop), Begins u (r.obj t) P ∧ P s.heap ∧ ∀ c ∈ r.cell, c < s.heap.objs.size := by
  cases r with
  | list a =>
    obtain ⟨its, rv, p, hz⟩ := I.list hq
    cases (show u = .ref a from ru)
    exact ⟨0, _, begins_list a its.toArray, p.isList, fun c hc => by
      obtain rfl := List.mem_singleton.mp hc
      exact p.lt⟩
  | tup a =>
    obtain ⟨its, rv, p, hz⟩ := I.tuple hq
    cases (show u = .ref a from ru)
    exact ⟨0, _, begins_tuple a its.toArray, p, fun c hc => by
      obtain rfl := List.mem_singleton.mp hc
      exact p.lt⟩
  | txt x =>
    obtain ⟨t, rfl⟩ := ru
    exact ⟨t, _, begins_text x t, True.intro, fun c hc => by cases hc⟩
end
end Sr
/-- the items of both at each turn, in new pairs -/
def Itzg (K : PySem.W.Frag) (r1 r2 : Sr) : It :=
  ⟨fun i H => ∃ (xs ys : List V) (x y : V), r1.has K H xs ∧ r2.has K H ys ∧ xs[i]? = some x ∧ ys[i]? = some y,
    fun i H v H' => ∃ T x y, v = .ref T ∧ H T = none ∧ H' = upd H T (.tup [x, y]) ∧ (∀ xs, r1.has K H xs → xs[i]? = some x) ∧ ∀ ys, r2.has K H ys → ys[i]? = some y,
    fun i H => ∃ xs ys : List V, r1.has K H xs ∧ r2.has K H ys ∧ i ≤ xs.length ∧ i ≤ ys.length ∧ (i = xs.length ∨ i = ys.length)⟩
theorem turn_zipG {P : Program} {w : World} {K : PySem.W.Frag} {elts : List Expr} {kk : Nat} {tpos : Pos} {r1 r2 : Sr} {z TI TO i1 i2 : Addr} {t1 t2 : Tok} (S : ZipSep2 z TI TO i1 i2 (i1 :: r1.cell) (i2 :: r2.cell)) (n1 : ∀ c ∈ r1.cell, c ≠ i1) (n2 : ∀ c ∈ r2.cell, c ≠ i2) :
    Turn P w K (.Tuple elts kk tpos) (Itzg K r1 r2) [z, TI, TO, i1, i2] z (fun i h => IsZip h z TI TO .none ∧ IsTupOf2 h TI (.ref i1) (.ref i2) ∧ (∃ x y, IsTupOf2 h TO x y) ∧ r1.st t1 i1 i h ∧ r2.st t2 i2 i h) where
  mem := by simp
  obj := fun i h st c hc => by
    obtain ⟨hz, hTI, ⟨x, y, hTO⟩, s1, s2⟩ := st
    have e' : c = z ∨ c = TI ∨ c = TO ∨ c = i1 ∨ c = i2 := by simpa using hc
    rcases e' with q | q | q | q | q
    · rw [q]; exact ⟨_, hz, fun v q => nomatch q⟩
    · rw [q]; exact ⟨_, hTI, fun v q => nomatch q⟩
    · rw [q]; exact ⟨_, hTO, fun v q => nomatch q⟩
    · rw [q]; exact Sr.st_obj s1
    · rw [q]; exact Sr.st_obj s2
  keep := fun i h h' st k => by
    obtain ⟨hz, hTI, ⟨x, y, hTO⟩, h1, h2⟩ := st
    exact ⟨k z (by simp) _ hz, k TI (by simp) _ hTI, ⟨x, y, k TO (by simp) _ hTO⟩, Sr.st_at h1 fun o q => k i1 (by simp) o q, Sr.st_at h2 fun o q => k i2 (by simp) o q⟩
  item := by
    intro X hP hw hK hc i pins s σ H E I hf st hg
    subst hP hw hK
    obtain ⟨hz, hTI, ⟨x0, y0, hTO⟩, h1, h2⟩ := st
    obtain ⟨xs, ys, x, y, hqx, hqy, hx, hy⟩ := hg
    have hh : X.A.in1.handled = none := I.ok.hd hc
    obtain ⟨P1, St1, D1, a1, b1, c1⟩ := Sr.draws I hh hqx t1 n1
    obtain ⟨P2, St2, D2, a2, b2, c2⟩ := Sr.draws I hh hqy t2 n2
    have hzl : z < s.heap.objs.size := Heap.lt_size hz
    have l1 : i < xs.length := (List.getElem?_eq_some_iff.mp hx).1
    have l2 : i < ys.length := (List.getElem?_eq_some_iff.mp hy).1
    refine wpAny_pyNext_zipD2_item S D1 D2 hz hTI hTO (b1 i h1) (b2 i h2) l1 l2 fun u u2 h' tk p1 p2 z' TO' st1' st2' hT hsz hk => ?_
    obtain ⟨x', e1, ru⟩ := c1 i u p1
    obtain ⟨y', e2, ru2⟩ := c2 i u2 p2
    rw [hx] at e1
    cases e1
    rw [hy] at e2
    cases e2
    refine ⟨_, rfl, wpAny_letOwnedTupleGo_zip (s := { s with heap := h', toks := tk }) z' fun h'' z'' sb => ?_⟩
    have hT2 : h''.get? s.heap.objs.size = some { cls := .type "tuple", data := .seq #[u, u2] } := (sb.2 _ (Nat.ne_of_gt hzl)).trans hT
    have new : ObjOk X.prog X.w (upd H s.heap.objs.size (.tup [x, y])) h'' s.heap.objs.size (.tup [x, y]) :=
      ⟨by show 2 ≤ sizeLine; decide, [u, u2], .cons ru (.cons ru2 .nil), ⟨_, hT2, rfl, _, rfl⟩⟩
    have I1 : Inv X pins σ (upd H s.heap.objs.size (.tup [x, y])) { s with heap := h'', toks := tk } :=
      I.turnedNew (t' := tk) (ch := [z, TI, TO, i1, i2]) (fun c o hb q => (sb.2 c (fun q' => hb (by simp [q']))).trans (hk c o (fun q' => hb (by simp [q'])) (fun q' => hb (by simp [q'])) (fun q' => hb (by simp [q'])) (fun q' => hb (by simp [q'])) q)) hf (Nat.le_refl _) new
    refine ⟨.ref s.heap.objs.size, _, I1, rfl, ⟨_, x, y, rfl, I.hok.fresh (Nat.le_refl _), rfl, fun l hl => by rw [Sr.has_inj I hl hqx]; exact hx, fun l hl => by rw [Sr.has_inj I hl hqy]; exact hy⟩, ⟨z'', ?_, ⟨u, u2, ?_⟩, ?_, ?_⟩, fun c hcm => ?_⟩
    · exact (sb.2 _ S.TIz).trans (hk _ _ S.TIz S.TITO S.TIi1 S.TIi2 hTI)
    · exact (sb.2 _ S.TOz).trans TO'
    · exact Sr.st_at (a1 _ _ st1') fun o q => (sb.2 _ S.zi1.symm).trans q
    · exact Sr.st_at (a2 _ _ st2') fun o q => (sb.2 _ S.zi2.symm).trans q
    · have hlt : c < s.heap.objs.size := by
        have e' : c = z ∨ c = TI ∨ c = TO ∨ c = i1 ∨ c = i2 := by simpa using hcm
        rcases e' with q | q | q | q | q
        · rw [q]; exact hzl
        · rw [q]; exact Heap.lt_size hTI
        · rw [q]; exact Heap.lt_size hTO
        · rw [q]; obtain ⟨_, e1, _⟩ := Sr.st_obj h1; exact Heap.lt_size e1
        · rw [q]; obtain ⟨_, e2, _⟩ := Sr.st_obj h2; exact Heap.lt_size e2
      rw [upd_ne (Nat.ne_of_lt hlt)]
      exact (hf c hcm).1
  done := by
    intro X hP hw hK hc i pins s σ H E I hf st hg
    subst hP hw hK
    obtain ⟨hz, hTI, ⟨x0, y0, hTO⟩, h1, h2⟩ := st
    obtain ⟨xs, ys, hqx, hqy, le1, le2, hend⟩ := hg
    have hh : X.A.in1.handled = none := I.ok.hd hc
    obtain ⟨P1, St1, D1, a1, b1, c1⟩ := Sr.draws I hh hqx t1 n1
    obtain ⟨P2, St2, D2, a2, b2, c2⟩ := Sr.draws I hh hqy t2 n2
    exact wpAny_pyNext_zipD2_end S D1 D2 hz hTI hTO (b1 i h1) (b2 i h2) le1 le2 hend fun h' tk hk => ⟨rfl, I.turnedL (t' := tk) (ch := [z, TI, TO, i1, i2]) (fun c o hb q =>
      hk c o (fun q' => hb (by simp [q'])) (fun q' => hb (by simp [q'])) (fun q' => hb (by simp [q'])) (fun q' => hb (by simp [q'])) q) hf⟩
  self := fun A i s Q E st h => wpAny_pyIter_zip st.1 h
def iZipG (K : PySem.W.Frag) (ta : TA) : TI := fun σ H R => ta σ H fun vs H1 => ∃ r1 r2 xs ys, vs = [Sr.v r1, Sr.v r2] ∧ r1.has K H1 xs ∧ r2.has K H1 ys ∧ R (Itzg K r1 r2) H1
theorem pi_zipG {X : Cx} {e e2 : Expr} {ta : TA} {p pos tpos : Pos} {elts : List Expr} {kk : Nat} (hg : Gl X "zip") (hm : X.mg "zip" = none) (ha : PA X [e, e2] ta)
    (hs : starEach [e, e2] X.env = (false, eval e X.env) :: starEach [e2] X.env := by rfl) (hpl : (backTo pos (starEach [e2] X.env)).any (·.1) = false := by rfl) :
    PI X (.Tuple elts kk tpos) (.Call (.Name "zip" p) [e, e2] [] pos) (iZipG X.K ta) := by
  refine ⟨fun pins s σ H R I h => ?_⟩
  refine Call_ (ld_blt I hg hm PyProof.Rows.boot_zip (PyProof.Rows.callWith_type1 (thn (ha.run pos pins s σ H _ I h) fun us s1 ⟨vs, H1, I1, r1, q1⟩ => ?_) hs hpl))
  obtain ⟨a, b, xs, ys, ex, hqx, hqy, q⟩ := q1
  subst ex
  cases r1 with
  | cons r rr =>
    cases rr with
    | cons r' rr =>
      cases rr
      obtain ⟨t1, P1, B1, k1, la⟩ := Sr.begins I1 hqx r
      obtain ⟨t2, P2, B2, k2, lb⟩ := Sr.begins I1 hqy r'
      refine zip_begins2 B1 B2 k1 k2 fun h' hz hTI hTO h1 h2 hsz hk => wpAny_pyIter_zip hz ?_
      have I2 : Inv X pins σ H1 { s1 with heap := h' } := I1.kept (t' := s1.toks) hk
      have S : ZipSep2 (s1.heap.objs.size + 4) (s1.heap.objs.size + 2) (s1.heap.objs.size + 3) s1.heap.objs.size (s1.heap.objs.size + 1) (s1.heap.objs.size :: a.cell) ((s1.heap.objs.size + 1) :: b.cell) := by
        generalize s1.heap.objs.size = n at la lb ⊢
        have ne : ∀ x y : Nat, x ≠ y → (x : Addr) ≠ y := fun _ _ h => h
        have f1 : ∀ c, n ≤ c → c ∉ a.cell := fun c hc hm => absurd (la c hm) (Nat.not_lt.mpr hc)
        have f2 : ∀ c, n ≤ c → c ∉ b.cell := fun c hc hm => absurd (lb c hm) (Nat.not_lt.mpr hc)
        have nm : ∀ (c d : Nat) (l : List Addr), c ≠ d → c ∉ l → c ∉ d :: l := fun c d l h1 h2 hm => (List.mem_cons.mp hm).elim h1 h2
        exact ⟨ne _ _ (by omega), ne _ _ (by omega), ne _ _ (by omega), ne _ _ (by omega), List.mem_cons_self .., nm _ _ _ (by omega) (f1 _ (by omega)), nm _ _ _ (by omega) (f1 _ (by omega)), ne _ _ (by omega), List.mem_cons_self ..,
          nm _ _ _ (by omega) (f2 _ (by omega)), nm _ _ _ (by omega) (f2 _ (by omega)), nm _ _ _ (by omega) (f2 _ (by omega)), nm _ _ _ (by omega) (f1 _ (by omega))⟩
      refine ⟨s1.heap.objs.size + 4, [s1.heap.objs.size + 4, s1.heap.objs.size + 2, s1.heap.objs.size + 3, s1.heap.objs.size, s1.heap.objs.size + 1], _, _, H1, rfl, I2, turn_zipG (t1 := t1) (t2 := t2) S (fun c hc => Nat.ne_of_lt (la c hc)) (fun c hc => Nat.ne_of_lt (Nat.lt_succ_of_lt (lb c hc))), ⟨hz, hTI, ⟨_, _, hTO⟩, Sr.st_new h1, Sr.st_new h2⟩, fun c hcm => ?_, q⟩
      have e' : c = s1.heap.objs.size + 4 ∨ c = s1.heap.objs.size + 2 ∨ c = s1.heap.objs.size + 3 ∨ c = s1.heap.objs.size ∨ c = s1.heap.objs.size + 1 := by simpa using hcm
      have hle : s1.heap.objs.size ≤ c := by
        rcases e' with z | z | z | z | z
        · rw [z]; exact Nat.le_add_right _ _
        · rw [z]; exact Nat.le_add_right _ _
        · rw [z]; exact Nat.le_add_right _ _
        · rw [z]; exact Nat.le_refl _
        · rw [z]; exact Nat.le_add_right _ _
      exact I1.fpOk hle (I1.hok.fresh hle)
/-! ### in worlds -/
theorem walk_zipG {K : PySem.W.Frag} {r1 r2 : Sr} {xs ys : List V} : Walk (Itzg K r1 r2) (min xs.length ys.length) (fun H => r1.has K H xs ∧ r2.has K H ys) (YPair (fun i => xs[i]?) (fun i => ys[i]?)) := by
  refine ⟨fun i _ hi q => ⟨xs, ys, xs[i]'(by omega), ys[i]'(by omega), q.1, q.2, List.getElem?_eq_getElem (by omega), List.getElem?_eq_getElem (by omega)⟩, fun _ q => ⟨xs, ys, q.1, q.2, by omega, by omega, by omega⟩, fun i H v H' _ q y => ?_⟩
  obtain ⟨T, x, y, h1, h2, h3, h4, h5⟩ := y
  exact ⟨T, x, y, h1, h2, h3, h4 xs q.1, h5 ys q.2⟩
/-- what a value is a source of -/
def SrR {α : Type} (K : PySem.W.Frag) (r : R α) (G : Hp) (v : V) (xs : List α) : Prop := ∃ (s : Sr) (vs : List V), v = s.v ∧ s.has K G vs ∧ Al r G vs xs
section
variable {α β τ ρ : Type} {K : PySem.W.Frag} {r : R α} {r' : R β} {G H : Hp} {O : Own} {v v' : V} {xs : List α} {ys : List β}
theorem SrR.ofL (h : (rL K r).rel G v xs) : SrR K r G v xs := let ⟨p, vs, e, hs, ha⟩ := h; ⟨.list p, vs, e, hs, ha⟩
theorem SrR.ofT (h : (rT K r).rel G v xs) : SrR K r G v xs := let ⟨p, vs, e, hs, ha⟩ := h; ⟨.tup p, vs, e, hs, ha⟩
theorem zip_at {i : Nat} {p : α × β} (h : (xs.zip ys)[i]? = some p) : xs[i]? = some p.1 ∧ ys[i]? = some p.2 := by
  rw [List.getElem?_zip_eq_some] at h
  exact h
def itZp (K : PySem.W.Frag) (vs : List V) (H : Hp) (RI : It → Hp → Prop) : Prop := ∃ r1 r2 xs ys, vs = [Sr.v r1, Sr.v r2] ∧ r1.has K H xs ∧ r2.has K H ys ∧ RI (Itzg K r1 r2) H
theorem gIZp {ta : TA} {σ : L2.St} {RI : It → Hp → Prop} (h : ta σ H fun vs H1 => itZp K vs H1 RI) : iZipG K ta σ H RI := h
theorem lp_Zp {f : τ → α × β → Option (Bf τ ρ)} {s0 : τ} {res : Fl τ ρ} {i1 i2 : Nat} {tb : TS} {D : Ends} {σ : L2.St} (S : Sub G O H) (h : SrR K r G v xs) (h' : SrR K r' G v' ys) (hm : forL f (xs.zip ys) s0 = some res) (I : τ → L2.St → Hp → Prop) (h0 : I s0 σ H) (hG : ∀ s σ H, I s σ H → Ext G H)
    (hs : ∀ (i : Nat) (x : α) (y : β) (s : τ) (b : Bf τ ρ), f s (x, y) = some b → conL f ((xs.zip ys).drop (i + 1)) b = some res → ∀ w w2 σ H H', I s σ H → (∀ G O, Sub G O H → Sub G O H') → r.rel G w x → r'.rel G w2 y →
      tb { D with nx := PvL f (xs.zip ys) res I (i + 1), ct := PvL f (xs.zip ys) res I (i + 1), bk := D.nx } ((σ.set i1 (some w)).set i2 (some w2)) H')
    (hd : ∀ s σ H, res = .nx s → I s σ H → D.nx σ H) :
    itZp K [v, v'] H (LpW (gTup K 2 (gCons (gName i1) (gCons (gName i2) gNil))) tb D σ) := by
  obtain ⟨s1, vs, rfl, q1, al1⟩ := h
  obtain ⟨s2, vs2, rfl, q2, al2⟩ := h'
  refine ⟨s1, s2, vs, vs2, rfl, Sr.has_up S.ext q1, Sr.has_up S.ext q2, lp_it walk_zipG (by rw [List.length_zip, al1.len, al2.len]) hm I h0 (fun s σ H hI => ⟨Sr.has_up (hG s σ H hI) q1, Sr.has_up (hG s σ H hI) q2⟩) (fun i p s b hx hb hr w σ H H' hI hY => ?_) hd⟩
  obtain ⟨T, w1, w2, rfl, hT, rfl, e1, e2⟩ := hY
  obtain ⟨k1, k2⟩ := zip_at hx
  exact ⟨T, _, rfl, .inl (.inl upd_same), rfl, _, _, rfl, _, _, rfl, rfl, hs i p.1 p.2 s b hb hr w1 w2 σ H _ hI (fun G O S => S.junk hT) (al1.at k1 e1) (al2.at k2 e2)⟩
theorem lc_Zp {f : τ → α × β → Option τ} {s0 s1' : τ} {i1 i2 : Nat} {tt : TT} {te : TE} {ws : List Nat} {σ : L2.St} {Q : VK} (S : Sub G O H) (h : SrR K r G v xs) (h' : SrR K r' G v' ys) (hm : folM f (xs.zip ys) s0 = some s1') (I : Addr → τ → Hp → Prop) (h0 : ∀ D, H D = none → I D s0 (upd H D (.lst []))) (hG : ∀ D s H, I D s H → Ext G H)
    (hs : ∀ (D : Addr) (i : Nat) (x : α) (y : β) (s s' : τ), f s (x, y) = some s' → folM f ((xs.zip ys).drop (i + 1)) s' = some s1' → ∀ w w2 H H', I D s H → (∀ G O, Sub G O H → Sub G O H') → r.rel G w x → r'.rel G w2 y →
      lcTurn tt te ws σ D (PvF f (xs.zip ys) s1' (I D) (i + 1)) (((wipe σ ws).set i1 (some w)).set i2 (some w2)) H')
    (hd : ∀ D H, I D s1' H → Q (.ref D) H) : itZp K [v, v'] H (LcW (gTup K 2 (gCons (gName i1) (gCons (gName i2) gNil))) tt te ws σ Q) := by
  obtain ⟨s1, vs, rfl, q1, al1⟩ := h
  obtain ⟨s2, vs2, rfl, q2, al2⟩ := h'
  refine ⟨s1, s2, vs, vs2, rfl, Sr.has_up S.ext q1, Sr.has_up S.ext q2, lc_fol walk_zipG (by rw [List.length_zip, al1.len, al2.len]) hm I h0 (fun D s H hI => ⟨Sr.has_up (hG D s H hI) q1, Sr.has_up (hG D s H hI) q2⟩) (fun D i p s s' hx hb hr v H H' hI hY => ?_) hd⟩
  obtain ⟨T, w1, w2, rfl, hT, rfl, e1, e2⟩ := hY
  obtain ⟨k1, k2⟩ := zip_at hx
  exact ⟨T, _, rfl, .inl (.inl upd_same), rfl, _, _, rfl, _, _, rfl, rfl, hs D i p.1 p.2 s s' hb hr w1 w2 H _ hI (fun G O S => S.junk hT) (al1.at k1 e1) (al2.at k2 e2)⟩
end
end Mr

set_option linter.all false
/-! TxtP: texts as lists of signs. -/
namespace Mr
abbrev Wrd := List Nat
def e_T (l : Wrd) : PySem.Str := ⟨l.toArray⟩
def catT (a b : Wrd) : Option Wrd := if a.length + b.length ≤ 100000 then some (a ++ b) else none
def lenT (a : Wrd) : Option Int := if a.length ≤ 100000 then some (a.length : Int) else none
def getT (a : Wrd) (i : Int) : Option Wrd := if a.length ≤ 100000 then (getM a i).bind fun c => some [c] else none
def cutT (a : Wrd) (lo hi : Option Int) : Option Wrd := if a.length ≤ 100000 then some (cutM a lo hi) else none
/-- a single sign in a text -/
def inT (a b : Wrd) : Option Bool := match a with
  | [c] => some (decide (c ∈ b))
  | _ => none
/-- the place of a sign in "abcd" -/
def abcd : Wrd := [97, 98, 99, 100]
def idxA (b a : Wrd) : Option Int := if b = abcd then (if a = [97] then some 0 else if a = [98] then some 1 else if a = [99] then some 2 else if a = [100] then some 3 else none) else none
def lsTx (a : Wrd) : Option (List Wrd) := if a.length ≤ 100000 then some (a.map fun c => [c]) else none
def sgT (a : Wrd) : List Wrd := a.map fun c => [c]
/-- text * number -/
def mulT (a : Wrd) (k : Int) : Option Wrd := if 2 ≤ k ∧ k ≤ 1000 ∧ a ≠ [] ∧ a.length ≤ 1000 then some (List.replicate k.toNat a).flatten else none
end Mr

set_option Elab.async false
set_option linter.all false
set_option maxRecDepth 100000
set_option maxHeartbeats 2000000
/-! MirTx: texts as lists of signs. -/
namespace Mr
open PySem PySem.Spec PyProof.Rows L2
theorem e_T_inj : ∀ x y, e_T x = e_T y → x = y := fun x y h => by
  unfold e_T at h
  injection h with h
  simpa using congrArg Array.toList h
theorem e_T_len (l : Wrd) : (e_T l).length = l.length := by simp [e_T, Str.length]
abbrev rTx : R Wrd := rSc fun x => V.str (e_T x)
theorem e_T_one (c : Nat) : e_T [c] = ⟨#[c]⟩ := rfl
theorem pe_strT {X : Cx} {x : Str} {l : Wrd} {j : Nat} {pos : Pos} (h : x = e_T l) : PE X (.Constant (.str x) j pos) (tC (.str (e_T l))) := h ▸ pe_str
section
variable {X : Cx} {σ : L2.St} {H : Hp} {Q : VK} {K : PySem.W.Frag}
def rAddT : R2 := fun x y H Q => ∃ i j, x = .str i ∧ y = .str j ∧ i.length + j.length ≤ sizeLine ∧ Q (.str (i ++ j)) H
theorem op_addT : OpR X (binaryOp .Add) rAddT := op_add_str
theorem q_catT {a b z : Wrd} (e : catT a b = some z) (q : Q (.str (e_T z)) H) : rAddT (.str (e_T a)) (.str (e_T b)) H Q := by
  obtain ⟨c, rfl⟩ := ifS e
  refine ⟨_, _, rfl, rfl, by rw [e_T_len, e_T_len]; exact sz c, ?_⟩
  have : e_T a ++ e_T b = e_T (a ++ b) := by
    show (⟨_⟩ : Str) = ⟨_⟩
    congr 1
    simp [e_T]
  rw [this]; exact q
theorem q_lenT' {a : Wrd} {n : Int} (e : lenT a = some n) (q : Q (.int n) H) : rLenS [.str (e_T a)] H Q := by
  obtain ⟨c, rfl⟩ := ifS e
  exact ⟨_, rfl, by rw [e_T_len]; exact sz c, by rw [e_T_len]; exact q⟩
theorem q_slT {b z : Wrd} {lo hi : Option Int} (e : cutT b lo hi = some z) (q : Q (.str (e_T z)) H) : rSlS (.str (e_T b)) lo hi H Q := by
  obtain ⟨c, rfl⟩ := ifS e
  refine ⟨_, rfl, by rw [e_T_len]; exact sz c, ?_⟩
  have e1 : ∀ n d o, HT.sIx n d o = slIx n d o := fun n d o => by cases o <;> rfl
  have e2 : cutS (e_T b) lo hi = e_T (cutM b lo hi) := by
    unfold cutS cutM
    rw [e1, e1, e_T_len]
    unfold e_T
    simp
  rw [e2]; exact q
theorem q_ixTx {b z : Wrd} {i : Int} (e : getT b i = some z) (q : Q (.str (e_T z)) H) : rIxS (.str (e_T b)) (.int i) H Q := by
  unfold getT at e
  by_cases k : b.length ≤ 100000
  · rw [if_pos k] at e
    obtain ⟨x, e1, e2⟩ := bindS e
    cases e2
    refine ⟨_, i, x, rfl, rfl, by rw [e_T_len]; exact sz k, ?_, q⟩
    unfold getM at e1
    obtain ⟨j, e3, e4⟩ := bindS e1
    show (ixN (e_T b).cps.toList.length i).bind _ = _
    have el : (e_T b).cps.toList.length = b.length := by simp [e_T]
    rw [el, ← ix_eq, e3]
    show (e_T b).cps.toList[j]? = _
    simp [e_T, e4]
  · rw [if_neg k] at e; cases e
theorem inT_some {a b : Wrd} {k : Bool} (e : inT a b = some k) : ∃ c, a = [c] ∧ k = decide (c ∈ b) := by
  unfold inT at e
  split at e
  · rename_i c; exact ⟨c, rfl, (Option.some.inj e).symm⟩
  · cases e
theorem q_inTx {a b : Wrd} {k : Bool} (e : inT a b = some k) (q : Q (.bl k) H) : rInS (.str (e_T a)) (.str (e_T b)) H Q := by
  obtain ⟨c, rfl, rfl⟩ := inT_some e
  refine ⟨c, e_T b, rfl, rfl, ?_⟩
  have : decide (c ∈ (e_T b).cps.toList) = decide (c ∈ b) := by
    apply decide_eq_decide.mpr
    simp [e_T]
  rw [this]; exact q
theorem q_niTx {a b : Wrd} {k : Bool} (e : inT a b = some k) (q : Q (.bl (!k)) H) : rNiS (.str (e_T a)) (.str (e_T b)) H Q := by
  obtain ⟨c, rfl, rfl⟩ := inT_some e
  refine ⟨c, e_T b, rfl, rfl, ?_⟩
  have : decide (c ∈ (e_T b).cps.toList) = decide (c ∈ b) := by
    apply decide_eq_decide.mpr
    simp [e_T]
  rw [this]; exact q
/-! index in "abcd" -/
def rSidx : V → List V → Hp → VK → Prop := fun x xs H Q => ∃ a b i rest, x = .str a ∧ xs = [.str b] ∧ Builtin.Str.occurrences a b 0 a.length 1 = i :: rest ∧ Q (.int (i : Nat)) H
theorem mt_sidx : MtR X "str.index" rSidx := mt_sindex
theorem occ_a : Builtin.Str.occurrences (e_T abcd) (e_T [97]) 0 (e_T abcd).length 1 = [0] := by decide +kernel
theorem occ_b : Builtin.Str.occurrences (e_T abcd) (e_T [98]) 0 (e_T abcd).length 1 = [1] := by decide +kernel
theorem occ_c : Builtin.Str.occurrences (e_T abcd) (e_T [99]) 0 (e_T abcd).length 1 = [2] := by decide +kernel
theorem occ_d : Builtin.Str.occurrences (e_T abcd) (e_T [100]) 0 (e_T abcd).length 1 = [3] := by decide +kernel
theorem q_idxA {b a : Wrd} {i : Int} (e : idxA b a = some i) (q : Q (.int i) H) : rSidx (.str (e_T b)) [.str (e_T a)] H Q := by
  unfold idxA at e
  split at e
  · rename_i hb
    subst hb
    split at e
    · rename_i h; subst h; cases e; exact ⟨_, _, 0, [], rfl, rfl, occ_a, q⟩
    · split at e
      · rename_i h; subst h; cases e; exact ⟨_, _, 1, [], rfl, rfl, occ_b, q⟩
      · split at e
        · rename_i h; subst h; cases e; exact ⟨_, _, 2, [], rfl, rfl, occ_c, q⟩
        · split at e
          · rename_i h; subst h; cases e; exact ⟨_, _, 3, [], rfl, rfl, occ_d, q⟩
          · cases e
  · cases e
/-! == -/
theorem op_eqT : OpR X (compareOp .Eq) (fun x y H Q => ∃ a b : Wrd, x = .str (e_T a) ∧ y = .str (e_T b) ∧ Q (.bl (decide (a = b))) H) := fun pins s σ H x y v u Q I rx ry h => by
  obtain ⟨a, b, rfl, rfl, q⟩ := h
  refine op_eqS pins s σ H _ _ v u Q I rx ry ⟨_, _, rfl, rfl, ?_⟩
  have : decide (e_T a = e_T b) = decide (a = b) := decide_eq_decide.mpr ⟨e_T_inj a b, fun h => by rw [h]⟩
  show Q (.bl (decide (e_T a = e_T b))) H
  rw [this]; exact q
theorem op_neT : OpR X (compareOp .NotEq) (fun x y H Q => ∃ a b : Wrd, x = .str (e_T a) ∧ y = .str (e_T b) ∧ Q (.bl (!decide (a = b))) H) := fun pins s σ H x y v u Q I rx ry h => by
  obtain ⟨a, b, rfl, rfl, q⟩ := h
  refine op_neS pins s σ H _ _ v u Q I rx ry ⟨_, _, rfl, rfl, ?_⟩
  have : decide (e_T a = e_T b) = decide (a = b) := decide_eq_decide.mpr ⟨e_T_inj a b, fun h => by rw [h]⟩
  show Q (.bl (!decide (e_T a = e_T b))) H
  rw [this]; exact q
end
/-! the signs of a text, walked -/
theorem sg_al {G : Hp} : ∀ l : Wrd, Al rTx G (l.map fun c => V.str ⟨#[c]⟩) (sgT l)
  | [] => True.intro
  | c :: l => ⟨rfl, sg_al l⟩
theorem SrR.ofTx {K : PySem.W.Frag} {G : Hp} (l : Wrd) : SrR K rTx G (V.str (e_T l)) (sgT l) := ⟨.txt (e_T l), l.map fun c => V.str ⟨#[c]⟩, rfl, by
  show _ = Sr.chs (e_T l)
  simp [Sr.chs, e_T], sg_al l⟩
def itS (x : V) (H : Hp) (RI : It → Hp → Prop) : Prop := ∃ z, x = .str z ∧ RI (Its z) H
theorem gIS {te : TE} {σ : L2.St} {H : Hp} {RI : It → Hp → Prop} (h : te σ H fun x H1 => itS x H1 RI) : iStr te σ H RI := h
section
variable {τ ρ : Type} {G H : Hp} {O : Own} {l : Wrd} {s0 : τ} {σ : L2.St} {g : TG}
theorem sg_at {l : Wrd} {i : Nat} {x : Wrd} {c : Nat} (h : (sgT l)[i]? = some x) (h2 : (e_T l).cps[i]? = some c) : x = [c] := by
  unfold sgT at h
  rw [List.getElem?_map] at h
  obtain ⟨d, h3, h4⟩ := Option.map_eq_some_iff.mp h
  have : l[i]? = some c := by simpa [e_T] using h2
  rw [this] at h3
  cases h3
  exact h4.symm
theorem lp_S {f : τ → Wrd → Option (Bf τ ρ)} {res : Fl τ ρ} {tb : TS} {D : Ends} (hm : forL f (sgT l) s0 = some res) (I : τ → L2.St → Hp → Prop) (h0 : I s0 σ H)
    (hs : ∀ (i : Nat) (x : Wrd) (s : τ) (b : Bf τ ρ), f s x = some b → conL f ((sgT l).drop (i + 1)) b = some res → ∀ σ H, I s σ H →
      g (.str (e_T x)) σ H fun σ2 H2 => tb { D with nx := PvL f (sgT l) res I (i + 1), ct := PvL f (sgT l) res I (i + 1), bk := D.nx } σ2 H2)
    (hd : ∀ s σ H, res = .nx s → I s σ H → D.nx σ H) : itS (.str (e_T l)) H (LpW g tb D σ) := by
  refine ⟨_, rfl, lp_it (walk_str (z := e_T l)) (by simp [sgT, e_T]) hm I h0 (fun _ _ _ _ => True.intro) (fun i x s b hx hb hr w σ H H' hI hY => ?_) hd⟩
  obtain ⟨rfl, c, h1, rfl⟩ := hY
  obtain rfl := sg_at hx h1
  exact hs i [c] s b hb hr σ _ hI
theorem lc_S {f : τ → Wrd → Option τ} {s1 : τ} {tt : TT} {te : TE} {ws : List Nat} {Q : VK} (hm : folM f (sgT l) s0 = some s1) (I : Addr → τ → Hp → Prop) (h0 : ∀ D, H D = none → I D s0 (upd H D (.lst [])))
    (hs : ∀ (D : Addr) (i : Nat) (x : Wrd) (s s' : τ), f s x = some s' → folM f ((sgT l).drop (i + 1)) s' = some s1 → ∀ H, I D s H → g (.str (e_T x)) (wipe σ ws) H (lcTurn tt te ws σ D (PvF f (sgT l) s1 (I D) (i + 1))))
    (hd : ∀ D H, I D s1 H → Q (.ref D) H) : itS (.str (e_T l)) H (LcW g tt te ws σ Q) := by
  refine ⟨_, rfl, lc_fol (walk_str (z := e_T l)) (by simp [sgT, e_T]) hm I h0 (fun _ _ _ _ => True.intro) (fun D i x s s' hx hb hr w H H' hI hY => ?_) hd⟩
  obtain ⟨rfl, c, h1, rfl⟩ := hY
  obtain rfl := sg_at hx h1
  exact hs D i [c] s s' hb hr _ hI
end
end Mr

set_option linter.all false
/-! XP: the plain part of defs that may raise. -/
namespace Mr
/-- what a def ends with -/
inductive Rs (ε α : Type) where
  | ok (a : α)
  | er (e : ε)
/-- a call that must not raise -/
def okR {ε α : Type} : Option (Rs ε α) → Option α
  | some (.ok a) => some a
  | _ => none
theorem okR_some {ε α : Type} {o : Option (Rs ε α)} {a : α} (h : okR o = some a) : o = some (.ok a) := by
  cases o with
  | none => cases h
  | some r =>
    cases r with
    | ok b => cases h; rfl
    | er e => cases h
theorem rs_ok {ε α : Type} {a b : α} (h : (Rs.ok a : Rs ε α) = .ok b) : a = b := by cases h; rfl
theorem q_ok {ε α : Type} {res : Rs ε α} {a : α} {P : α → Prop} (h : res = .ok a) (p : P a) : ∀ r, res = .ok r → P r := fun r e => by
  rw [h] at e; cases e; exact p
theorem q_noer {ε α : Type} {res : Rs ε α} {a : α} {P : ε → Prop} (h : res = .ok a) : ∀ x, res = .er x → P x := fun r e => by
  rw [h] at e; cases e
theorem and_sw {a b : Prop} (h2 : b) (h1 : a) : a ∧ b := ⟨h1, h2⟩
def memB {α : Type} [DecidableEq α] (x : α) (xs : List α) : Bool := decide (x ∈ xs)
theorem memB_iff {α : Type} [DecidableEq α] {x : α} {xs : List α} : memB x xs = true ↔ x ∈ xs := decide_eq_true_iff
/-- list * int -/
def repM {α : Type} (xs : List α) (k : Int) : Option (List α) := if -(2 ^ 63) ≤ k ∧ k < 2 ^ 63 ∧ xs.length * k.toNat ≤ 100000 then some (List.replicate k.toNat xs).flatten else none
theorem repM_some {α : Type} {xs ys : List α} {k : Int} (h : repM xs k = some ys) : (-(2 ^ 63) ≤ k ∧ k < 2 ^ 63 ∧ xs.length * k.toNat ≤ 100000) ∧ (List.replicate k.toNat xs).flatten = ys := by
  unfold repM at h
  split at h
  · rename_i c; exact ⟨c, Option.some.inj h⟩
  · cases h
end Mr
namespace Mr
/-- xs[::i] for 1 and -1 -/
def stpM {α : Type} (xs : List α) (i : Int) : Option (List α) := if i = 1 then some xs else if i = -1 then some xs.reverse else none
/-- a, b = xs -/
def two2M {α : Type} : List α → Option (α × α)
  | [a, b] => some (a, b)
  | _ => none
theorem two2M_some {α : Type} {xs : List α} {p : α × α} (h : two2M xs = some p) : xs = [p.1, p.2] := by
  match xs, h with
  | [a, b], h => cases h; rfl
/-- an append behind which the list is not looked at any more -/
def appU {α : Type} (xs : List α) : Option Unit := if xs.length < 100000 then some () else none
theorem appU_some {α : Type} {xs : List α} {u : Unit} (h : appU xs = some u) : xs.length < 100000 := by
  unfold appU at h
  split at h
  · assumption
  · cases h
end Mr

set_option linter.all false
/-! SortP: sorted, the plain part. -/
namespace Mr
open PySem
def sortM {α : Type} (k : α → PyData) (xs : List α) : Option (List α) := if xs.length ≤ 100000 then some (xs.mergeSort (PySem.W.dataLe false k)) else none
theorem sortM_some {α : Type} {k : α → PyData} {xs ys : List α} (h : sortM k xs = some ys) : xs.length ≤ 100000 ∧ xs.mergeSort (PySem.W.dataLe false k) = ys := by
  unfold sortM at h
  split at h
  · rename_i c; exact ⟨c, Option.some.inj h⟩
  · cases h
end Mr

set_option Elab.async false
set_option linter.all false
set_option maxRecDepth 100000
set_option maxHeartbeats 2000000
/-! SortD: sorted(list of data that are alike); list * int. -/
namespace Mr
open PySem PySem.Spec PyProof.Rows L2
def rSortD (K : PySem.W.Frag) : List V → Hp → VK → Prop := fun vs H Q => ∃ (α : Type) (r : R α) (G : Hp) (k : α → PyData) (a : Addr) (xs : List V) (bs : List α), vs = [V.ref a] ∧ SqL K H a xs ∧ Al r G xs bs ∧ (∀ v b, r.rel G v b → Dp K H v (k b)) ∧
  PySem.W.AllAlike (bs.map k) ∧ PySem.W.Sortable (bs.map k) ∧ bs.length ≤ sizeLine ∧ (∀ b, (k b).depth ≤ 60) ∧
  ∀ ys p, Al r G ys (bs.mergeSort (PySem.W.dataLe false k)) → H p = none → Q (.ref p) (upd H p (.lst ys))
theorem each_al {α : Type} {r : R α} {G : Hp} : ∀ {xs : List V} {us : List Value} {bs : List α}, Vals xs us → Al r G xs bs → PySem.W.EachIs (fun u b => ∃ v, RelV v u ∧ r.rel G v b) us bs
  | _, _, [], .nil, _ => .nil
  | _, _, _ :: _, .cons h1 h2, h => .cons ⟨_, h1, h.1⟩ (each_al h2 h.2)
  | _, _, _ :: _, .nil, h => h.elim
  | _, _, [], .cons _ _, h => h.elim
theorem al_each {α : Type} {r : R α} {G : Hp} : ∀ {us : List Value} {bs : List α}, PySem.W.EachIs (fun u b => ∃ v, RelV v u ∧ r.rel G v b) us bs → ∃ xs : List V, Vals xs us ∧ Al r G xs bs
  | _, _, .nil => ⟨[], .nil, True.intro⟩
  | _, _, .cons ⟨v, h1, h2⟩ t => by
    obtain ⟨xs, h3, h4⟩ := al_each t
    exact ⟨v :: xs, .cons h1 h3, h2, h4⟩
theorem call_sortD {X : Cx} {k0 : Nat} (hr : Room k0 X.A) : CallR X (.builtin "sorted") (rSortD X.K) := by
  intro pins s σ H vs us Q I r h
  obtain ⟨α, rr, G, k, a, xs, bs, rfl, hs, ha, hd, hal, hso, hL, hdep, q⟩ := h
  obtain ⟨its, rv, hl, hz⟩ := I.list hs
  obtain ⟨u, rfl, ru⟩ := vals1 r
  obtain rfl : u = Value.ref a := ru
  have e1 := each_al rv ha
  have hu := hr.units
  refine PySem.W.sorted_data (enc := k) hl.isList e1 (e1.mono fun u b ⟨v, h1, h2⟩ => Dp.reads I (k b) v u (hd v b h2) h1) hal hso hL (fun b _ => ?_) fun out hlen ho => ?_
  · have := hdep b
    omega
  · obtain ⟨ys, h3, h4⟩ := al_each ho
    have hp := I.hok.fresh (Nat.le_succ s.heap.objs.size)
    refine ⟨.ref (s.heap.objs.size + 1), upd H (s.heap.objs.size + 1) (.lst ys), I.laid (t' := s.toks) (fun b o e => sortedAll_old e) (Nat.le_succ _) ?_, rfl, q ys _ h4 hp⟩
    obtain ⟨n, hn⟩ := sortedAll_at s.heap its out.toArray
    refine ⟨?_, out, n, h3, hn⟩
    rw [h3.length, hlen]
    exact hL
section
variable {α : Type} [DecidableEq α] {r : R α} {G G' H : Hp} {O : Own} {K : PySem.W.Frag} {v w : V} {vs : List V} {x : α} {xs ys : List α} {a : Addr} {Q : VK}
theorem dp_up1 (d : RD K α) (S : Sub G O H) {v : V} {b : α} (h : d.r.rel G v b) : Dp K H v (d.enc b) := d.dp (R.up S.ext h)
theorem q_sortL (d : RD K α) (k : α → PyData) (hk : d.enc = k) (hd : d.dep ≤ 60) (S : Sub G O H) (h : (rL K d.r).rel G v xs) (e : sortM k xs = some ys) (hal : ∀ b b', PySem.W.alike (d.enc b) (d.enc b') = true) (hso : PySem.W.Sortable (xs.map d.enc))
    (q : ∀ u G' H', Ext G G' → Sub G' O H' → (rM d.r).rel G' u ys → Q u H') : rSortD K [v] H Q := by
  obtain ⟨hz, rfl⟩ := sortM_some e
  subst hk
  obtain ⟨p, vs, rfl, hs, ha⟩ := h
  exact ⟨α, d.r, G, d.enc, p, vs, xs, rfl, sqL_up S.ext hs, ha, fun v b h => dp_up1 d S h, PySem.W.AllAlike.of hal, hso, sz hz, fun b => Nat.le_trans (d.dpt b) hd, fun ys t hy ht => q _ _ _ (S.extNew ht _) (S.new ht) ⟨t, ys, rfl, upd_same, hy.up (S.extNew ht _)⟩⟩
theorem q_sortO (d : RD K α) (k : α → PyData) (hk : d.enc = k) (hd : d.dep ≤ 60) (S : Sub G ((a, .lst vs) :: O) H) (h : Al d.r G vs xs) (e : sortM k xs = some ys) (hal : ∀ b b', PySem.W.alike (d.enc b) (d.enc b') = true) (hso : PySem.W.Sortable (xs.map d.enc))
    (q : ∀ u G' H', Ext G G' → Sub G' ((a, .lst vs) :: O) H' → (rM d.r).rel G' u ys → Q u H') : rSortD K [V.ref a] H Q := by
  obtain ⟨hz, rfl⟩ := sortM_some e
  subst hk
  exact ⟨α, d.r, G, d.enc, a, vs, xs, rfl, .inl (.inl S.head), h, fun v b h => dp_up1 d S h, PySem.W.AllAlike.of hal, hso, sz hz, fun b => Nat.le_trans (d.dpt b) hd, fun ys t hy ht => q _ _ _ (S.extNew ht _) (S.new ht) ⟨t, ys, rfl, upd_same, hy.up (S.extNew ht _)⟩⟩
theorem q_sortOw (d : RD K α) (k : α → PyData) (hk : d.enc = k) (hd : d.dep ≤ 60) (S : Sub G ((a, .lst vs) :: O) H) (h : Al d.r G vs xs) (e : sortM k xs = some ys) (hal : ∀ b b', PySem.W.alike (d.enc b) (d.enc b') = true) (hso : PySem.W.Sortable (xs.map d.enc))
    (q : ∀ p ws H', Sub G ((p, .lst ws) :: (a, .lst vs) :: O) H' → Al d.r G ws ys → Q (.ref p) H') : rSortD K [V.ref a] H Q := by
  obtain ⟨hz, rfl⟩ := sortM_some e
  subst hk
  exact ⟨α, d.r, G, d.enc, a, vs, xs, rfl, .inl (.inl S.head), h, fun v b h => dp_up1 d S h, PySem.W.AllAlike.of hal, hso, sz hz, fun b => Nat.le_trans (d.dpt b) hd, fun ys t hy ht => q t ys _ (S.newOwn ht) hy⟩
end
section
variable {α : Type} [DecidableEq α] {G H : Hp} {O : Own} {K : PySem.W.Frag} {v w : V} {x : α} {xs : List α} {Q : VK}
theorem q_inDB (d : RD K α) (hd : d.dep + 1 ≤ 64) (h1 : d.r.rel H v x) (h2 : (rM d.r).rel H w xs) (o1 : d.ok x = true) (o2 : xs.all d.ok = true) (q : Q (.bl (memB x xs)) H) : rInD K v w H Q := q_inD d hd h1 h2 o1 o2 q
theorem q_niDB (d : RD K α) (hd : d.dep + 1 ≤ 64) (h1 : d.r.rel H v x) (h2 : (rM d.r).rel H w xs) (o1 : d.ok x = true) (o2 : xs.all d.ok = true) (q : Q (.bl (!memB x xs)) H) : rNotInD K v w H Q := q_niD d hd h1 h2 o1 o2 q
end
/-! ### list * int -/
section
variable {α : Type} {r : R α} {G G' H : Hp} {O : Own} {K : PySem.W.Frag} {v w : V} {vs : List V} {xs ys : List α} {Q : VK}
theorem Al.repl (h : Al r G vs xs) : ∀ k : Nat, Al r G (List.replicate k vs).flatten (List.replicate k xs).flatten
  | 0 => True.intro
  | k + 1 => by
    rw [List.replicate_succ, List.replicate_succ, List.flatten_cons, List.flatten_cons]
    exact h.app (Al.repl h k)
theorem q_rep {k : Int} (S : Sub G O H) (h1 : LsAt r G H v xs) (e : repM xs k = some ys) (q : ∀ u G' H', Ext G G' → Sub G' O H' → (rM r).rel G' u ys → Q u H') : rRep v (.int k) H Q := by
  obtain ⟨p, vs, rfl, h3, ha⟩ := h1
  obtain ⟨⟨c1, c2, c3⟩, rfl⟩ := repM_some e
  refine ⟨p, k, vs, rfl, rfl, h3, c1, c2, sz (by rw [ha.len]; exact c3), fun t ht => q _ _ _ (S.extNew ht _) (S.new ht) ⟨t, _, rfl, upd_same, ?_⟩⟩
  exact (ha.repl k.toNat).up (S.extNew ht _)
end
end Mr

set_option Elab.async false
set_option linter.all false
set_option maxRecDepth 100000
set_option maxHeartbeats 1000000
/-! OlW: None, or a list that is owned. -/
namespace Mr
open PySem PySem.Spec PyProof.Rows L2
variable {K : PySem.W.Frag} {α : Type} {r : R α} {G G' H : Hp} {B O : Own} {v : V} {Q : VK}
def OLR (r : R α) (G : Hp) (B : Own) (v : V) : Option (List α) → Prop
  | none => v = .non ∧ B = []
  | some xs => ∃ l w, v = .ref l ∧ B = [(l, .lst w)] ∧ Al r G w xs
theorem OLR.up {o : Option (List α)} (e : Ext G G') (h : OLR r G B v o) : OLR r G' B v o := by
  cases o with
  | none => exact h
  | some xs =>
    obtain ⟨l, w, h1, h2, h3⟩ := h
    exact ⟨l, w, h1, h2, h3.up e⟩
theorem OLR.isNone {o : Option (List α)} (h : OLR r G B v o) : decide (v = .non) = o.isNone := by
  cases o with
  | none => rw [h.1]; rfl
  | some xs =>
    obtain ⟨l, w, rfl, _⟩ := h
    rfl
theorem q_olNon {o : Option (List α)} (h : OLR r G B v o) (q : Q (.bl o.isNone) H) : rIsNon v .non H Q := ⟨rfl, by rw [h.isNone]; exact q⟩
theorem q_olNotNon {o : Option (List α)} (h : OLR r G B v o) (q : Q (.bl (!o.isNone)) H) : rIsNotNon v .non H Q := ⟨rfl, by rw [h.isNone]; exact q⟩
/-- the bundle as an owned list -/
theorem OLR.get {o : Option (List α)} {xs : List α} (h : OLR r G B v o) (e : o = some xs) : ∃ l w, v = .ref l ∧ B = [(l, .lst w)] ∧ Al r G w xs := by
  subst e; exact h
end Mr

set_option Elab.async false
set_option linter.all false
set_option maxRecDepth 100000
set_option maxHeartbeats 1000000
/-! TupIn: x in a tuple of data; xs[::step] with a step of 1 or -1. -/
namespace Mr
open PySem PySem.Spec PyProof.Rows L2
section
variable {X : Cx}
def rInDT (K : PySem.W.Frag) : R2 := fun x y H Q => ∃ d ds, Dp K H x d ∧ Dp K H y (.tuple ds) ∧ SeqAt.shaped d = true ∧ SeqAt.shaped (.tuple ds) = true ∧ Q (.bl (ds.any fun z => PyData.eqv z d)) H
theorem op_inDT (hu : X.A.units + 65 < cLine) : OpR X (compareOp .In) (rInDT X.K) := by
  intro pins s σ H x y v u Q I rx ry h
  obtain ⟨d, ds, hd, he, sd, se, q⟩ := h
  obtain ⟨as, r1⟩ := Dp.reads I d x v hd rx
  obtain ⟨bs, r2⟩ := Dp.reads I (.tuple ds) y u he ry
  exact SeqAt.in_tuple_reads r2 r1 (SeqAt.canLay_of_shaped se) (SeqAt.canLay_of_shaped sd) (room_in_shaped sd hu) ⟨.bl _, H, I, rfl, q⟩
theorem op_inDTK {K : PySem.W.Frag} (h : X.K = K) (hu : X.A.units + 65 < cLine) : OpR X (compareOp .In) (rInDT K) := h ▸ op_inDT hu
def tStpL (K : PySem.W.Frag) (te : TE) (tp : TO) : TE := fun σ H Q => te σ H fun x H1 => tp σ H1 fun o H2 => ∃ a xs, x = .ref a ∧ SqL K H2 a xs ∧ ((o = some 1 ∧ ∀ p, H2 p = none → Q (.ref p) (upd H2 p (.lst xs))) ∨ (o = some (-1) ∧ ∀ p, H2 p = none → Q (.ref p) (upd H2 p (.lst xs.reverse))))
theorem pe_stpL {e st : Expr} {te : TE} {tp : TO} {p3 pos : Pos} (he : PE X e te) (hst : PO X (some st) tp) : PE X (.Subscript e (.Slice none none (some st) p3) pos) (tStpL X.K te tp) := by
  refine ⟨fun pins s σ H Q I h => ?_⟩
  refine Subscript_ (thn (he.run pins s σ H _ I h) fun v s1 ⟨x, H1, I1, r1, q1⟩ => ?_)
  refine wpAny_Slice (thn (po_none.run pins s1 σ H1 (fun o H2 => o = none ∧ H2 = H1) I1 ⟨rfl, rfl⟩) fun vl s2 ⟨l, H2, I2, pl, el, e2⟩ => ?_)
  subst el e2
  refine thn (po_none.run pins s2 σ H2 (fun o H3 => o = none ∧ H3 = H2) I2 ⟨rfl, rfl⟩) fun vu s3 ⟨u, H3, I3, pu, eu, e3⟩ => ?_
  subst eu e3
  refine thn (hst.run pins s3 σ H3 _ I3 q1) fun vs s4 ⟨o, H4, I4, ps, a, xs, ex, hx, q⟩ => ?_
  subst ex
  cases r1
  have I5 : Inv X pins σ H4 { s4 with heap := s4.heap.push { cls := .type "slice", data := .fields #[vl, vu, vs] } } := I4.kept (t' := s4.toks) fun b ob q => Heap.get?_push_of_some _ q
  obtain ⟨its, r, ht, hz⟩ := I5.list hx
  have hlen := r.length
  show wpAny (model X.prog X.w) X.A (subscriptTail e (.Slice none none (some st) p3) (.ref a) (.ref s4.heap.objs.size)) (EP X pins σ Q) X.xe { s4 with heap := s4.heap.push { cls := .type "slice", data := .fields #[vl, vu, vs] } }
  refine tail_any (ops := [.ref a, .ref s4.heap.objs.size]) ht.isList.typeIs (PySem.slot_list_getitem.lookup) ?_ (by with_unfolding_all rfl)
  rcases q with ⟨eo, q⟩ | ⟨eo, q⟩ <;> subst eo
  · refine wpAny_getItem_list_slice ht.isList (Heap.IsSliceOf.new _ vl vu vs) pl pu ps (by decide) ?_ (by rw [List.size_toArray]; omega)
    rw [show slicePick its.toArray none none (some 1) = slicePick its.toArray none none none from rfl, slicePick_cut, ← hlen]
    have e1 : HT.sIx xs.length 0 none = 0 := rfl
    have e2 : HT.sIx xs.length xs.length none = xs.length := rfl
    rw [e1, e2, List.drop_zero, Nat.sub_zero, hlen, List.take_length]
    refine ⟨.ref _, _, I5.laid (t' := s4.toks) (o := .lst xs) (fun b ob q => Heap.get?_push_of_some _ q) (Nat.le_refl _) ?_, rfl, q _ (I5.hok.fresh (Nat.le_refl _))⟩
    exact ⟨hz, _, 0, r, Heap.get?_push_size _ rfl⟩
  · refine wpAny_getItem_list_slice ht.isList (Heap.IsSliceOf.new _ vl vu vs) pl pu ps (by decide) ?_ (by rw [List.size_toArray]; omega)
    rw [PySem.W.krv_pick]
    refine ⟨.ref _, _, I5.laid (t' := s4.toks) (o := .lst xs.reverse) (fun b ob q => Heap.get?_push_of_some _ q) (Nat.le_refl _) ?_, rfl, q _ (I5.hok.fresh (Nat.le_refl _))⟩
    exact ⟨by rw [List.length_reverse]; exact hz, _, 0, r.reverse, Heap.get?_push_size _ rfl⟩
end
section
variable {α : Type} [DecidableEq α] {K : PySem.W.Frag} {G H : Hp} {v w : V} {x : α} {xs : List α} {Q : VK}
theorem q_inDT (d : RD K α) (hd : d.dep + 1 ≤ 64) (h1 : d.r.rel H v x) (h2 : (rT K d.r).rel H w xs) (o1 : d.ok x = true) (o2 : xs.all d.ok = true) (q : Q (.bl (memB x xs)) H) : rInDT K v w H Q :=
  ⟨d.enc x, xs.map d.enc, d.dp h1, (dT d).dp h2, d.shaped (by omega) o1, (dT d).shaped hd o2, by rw [any_mem]; exact q⟩
end
def mkStp (K : PySem.W.Frag) (x : V) (o : Option Int) (H2 : Hp) (Q : VK) : Prop := ∃ a xs, x = .ref a ∧ SqL K H2 a xs ∧ ((o = some 1 ∧ ∀ p, H2 p = none → Q (.ref p) (upd H2 p (.lst xs))) ∨ (o = some (-1) ∧ ∀ p, H2 p = none → Q (.ref p) (upd H2 p (.lst xs.reverse))))
section
variable {α : Type} {r : R α} {K : PySem.W.Frag} {G H : Hp} {O : Own} {v w : V} {vs : List V} {xs ys : List α} {a : Addr} {Q : VK} {σ : L2.St}
theorem gStpL {te : TE} {tp : TO} (h : te σ H fun x H1 => tp σ H1 fun o H2 => mkStp K x o H2 Q) : tStpL K te tp σ H Q := h
theorem q_stpO {i : Int} (S : Sub G ((a, .lst vs) :: O) H) (h : Al r G vs xs) (e : stpM xs i = some ys) (q : ∀ w G' H', Ext G G' → Sub G' ((a, .lst vs) :: O) H' → (rM r).rel G' w ys → Q w H') : mkStp K (.ref a) (some i) H Q := by
  refine ⟨a, vs, rfl, .inl (.inl S.head), ?_⟩
  unfold stpM at e
  by_cases c : i = 1
  · rw [if_pos c] at e
    cases e
    exact .inl ⟨congrArg some c, fun t ht => q _ _ _ (S.extNew ht _) (S.new ht) ⟨t, _, rfl, upd_same, h.up (S.extNew ht _)⟩⟩
  · rw [if_neg c] at e
    by_cases c2 : i = -1
    · rw [if_pos c2] at e
      cases e
      exact .inr ⟨congrArg some c2, fun t ht => q _ _ _ (S.extNew ht _) (S.new ht) ⟨t, _, rfl, upd_same, (h.up (S.extNew ht _)).rev⟩⟩
    · rw [if_neg c2] at e
      cases e
/-- a, b = a list of two -/
theorem q_gl2 {p : α × α} {i0 i1 : Nat} {QS : L2.St → Hp → Prop} (S : Sub G O H) (h : (rL K r).rel G v xs) (e : two2M xs = some p) (q : ∀ v0 v1, r.rel G v0 p.1 → r.rel G v1 p.2 → QS ((σ.set i0 (some v0)).set i1 (some v1)) H) : L2.gLst K 2 (gCons (gName i0) (gCons (gName i1) gNil)) v σ H QS := by
  obtain ⟨a, vs, rfl, hs, ha⟩ := h
  have := two2M_some e
  subst this
  match vs, ha with
  | [v0, v1], ha => exact ⟨a, _, rfl, sqL_up S.ext hs, rfl, _, _, rfl, _, _, rfl, rfl, q v0 v1 ha.1 ha.2.1⟩
/-- an append to an owned list that is not looked at any more -/
theorem q_appU {w : V} {u : Unit} (S : Sub G ((a, .lst vs) :: O) H) (h : Al r G vs xs) (e : appU xs = some u) (q : ∀ H', Sub G O H' → Q .non H') : rAppend (.ref a) [w] H Q :=
  ⟨a, vs, w, rfl, rfl, S.head, szl (by rw [h.len]; exact appU_some e), q _ S.wr.tail⟩
/-- a list + a list, owned -/
theorem q_catw {w : V} {zs : List α} (S : Sub G O H) (h1 : LsAt r G H v xs) (h2 : LsAt r G H w ys) (e : catM xs ys = some zs) (q : ∀ p w H', Sub G ((p, .lst w) :: O) H' → Al r G w zs → Q (.ref p) H') : rCat v w H Q := by
  obtain ⟨p, vs, rfl, h3, ha⟩ := h1
  obtain ⟨p2, ws, rfl, h4, hb⟩ := h2
  obtain ⟨c, rfl⟩ := catM_some e
  exact ⟨p, p2, vs, ws, rfl, rfl, h3, h4, sz (by rw [ha.len, hb.len]; exact c), fun t ht => q t _ _ (S.newOwn ht) (ha.app hb)⟩
end
end Mr

set_option Elab.async false
set_option linter.all false
set_option maxRecDepth 100000
set_option maxHeartbeats 2000000
/-! CompK: rules within comprehensions (the fragment named), isinstance of several types, a walrus in a while's test. -/
namespace Mr
open PySem PySem.Spec PyProof.Rows L2
section
variable {X : Cx} {K : PySem.W.Frag} {tg e : Expr} {te : TE} {ta : TA} {p pos tpos : Pos}
theorem pi_listK (h : X.K = K) (he : PE X e te) : PI X tg e (iList K te) := h ▸ pi_list he
theorem pi_tupK (h : X.K = K) (he : PE X e te) : PI X tg e (iTup K te) := h ▸ pi_tup he
theorem op_addTK : OpR X (binaryOp .Add) rAddT := op_addT
end
section
variable {α β : Type} {r0 : R α} {r1 : R β} {y : α × β} {K : PySem.W.Frag} {G H : Hp} {O : Own} {v : V} {Q : VK}
theorem q_tupP2 (S : Sub G O H) (h : (rP2 K r0 r1).rel G v y) (q : Q v H) : rTupOf K [v] H Q := by
  obtain ⟨p, v0, v1, rfl, hs, _⟩ := h
  exact ⟨p, _, rfl, .inr ⟨sqT_up S.ext hs, q⟩⟩
end
/-! isinstance(x, (A, B)) -/
section
variable {K : PySem.W.Frag} {H : Hp} {v : V} {p : Addr} {Q : VK}
def kitL (t : String) : List String → Option Bool
  | [] => some false
  | c :: r => match kitB t c with
    | some true => some true
    | some false => kitL t r
    | none => none
theorem kitL_any {t : String} : ∀ {cs : List String} {b : Bool}, kitL t cs = some b → PySem.W.kitAny K (.type t) (cs.map Value.type) = some b
  | [], b, h => h
  | c :: cs, b, h => by
    unfold kitL at h
    show (match PySem.W.kitOne K (.type t) (.type c) with
      | some true => some true
      | some false => PySem.W.kitAny K (.type t) (cs.map Value.type)
      | none => none) = some b
    cases hk : kitB t c with
    | none => rw [hk] at h; cases h
    | some k =>
      rw [hk] at h
      rw [kit_ty hk]
      cases k with
      | true => exact h
      | false => exact kitL_any h
theorem clsV_map : ∀ cs : List String, Paired ClsV (cs.map V.ty) (cs.map Value.type)
  | [] => .nil
  | c :: cs => .cons (.ty c) (clsV_map cs)
theorem q_isiT {t : String} {cs : List String} {b : Bool} (h : TyX K (upd H p (.tup (cs.map V.ty))) v (.type t)) (e : kitL t cs = some b) (q : Q (.bl b) (upd H p (.tup (cs.map V.ty)))) : rIsiT K [v, .ref p] (upd H p (.tup (cs.map V.ty))) Q :=
  ⟨v, p, _, .type t, _, b, rfl, upd_same, clsV_map cs, h, kitL_any e, q⟩
end
/-! while (x := e) op f -/
section
variable {τ ρ : Type} {f : τ → Option (Bf τ ρ)} {N : Nat} {s0 : τ} {res : Fl τ ρ} {c : TTw} {tb : TS} {D : Ends} {σ : L2.St} {H : Hp}
theorem lp_WW (hm : whL f N s0 = some res) (I : τ → L2.St → Hp → Prop) (h0 : I s0 σ H)
    (hs : ∀ (n : Nat) (s : τ) (b : Bf τ ρ), f s = some b → conW f n b = some res → ∀ σ H, I s σ H →
      c σ H fun t σ1 H1 => if t = true then ∃ N : L2.St → Hp → Prop, (∀ σ' H', N σ' H' → ∃ m', m' < n + 1 ∧ PvW f res I m' σ' H') ∧ tb { D with nx := N, ct := N, bk := D.nx } σ1 H1 else tNext D σ1 H1) : tWhileW c tb tNext D σ H := by
  refine ⟨fun m => PvW f res I m, ⟨N, s0, h0, hm⟩, fun m σ H hW => ?_⟩
  obtain ⟨s, hI, hf⟩ := hW
  cases m with
  | zero => cases hf
  | succ n =>
    rw [whL_succ] at hf
    obtain ⟨b, hb, hc⟩ := bindS hf
    exact hs n s b hb hc σ H hI
theorem gWCmp {r : R2} {t : TEw} {tb : TE} {Q : Bool → L2.St → Hp → Prop} (h : t σ H fun x σ1 H1 => tb σ1 H1 fun y H2 => r x y H2 fun z H3 => ∃ k, z = .bl k ∧ Q k σ1 H3) : wCmp r t tb σ H Q := h
theorem gWNm {t : TE} {i : Nat} {Q : V → L2.St → Hp → Prop} (h : t σ H fun x H1 => Q x (σ.set i (some x)) H1) : wNm (wE t) i σ H Q := h
end
end Mr

set_option linter.all false
/-! ClsP: dicts with text keys, as lists of pairs in the order of insertion. -/
namespace Mr
def getW {α : Type} (kvs : List (Wrd × α)) (w : Wrd) : Option α := (kvs.find? fun p => decide (p.1 = w)).map (·.2)
def putW {α : Type} (kvs : List (Wrd × α)) (w : Wrd) (x : α) : List (Wrd × α) := if (kvs.any fun p => decide (p.1 = w)) = true then kvs.map (fun p => if p.1 = w then (p.1, x) else p) else kvs ++ [(w, x)]
def putWM {α : Type} (kvs : List (Wrd × α)) (w : Wrd) (x : α) : Option (List (Wrd × α)) := if kvs.length < 100000 then some (putW kvs w x) else none
end Mr

set_option Elab.async false
set_option linter.all false
set_option maxRecDepth 100000
set_option maxHeartbeats 2000000
/-! ClsG: instances that are frozen, dicts with text keys. -/
namespace Mr
open PySem PySem.Spec PyProof.Rows L2
/-- an instance with these attributes -/
def InsAt (C : Addr) (fs : List (Str × V)) (G : Hp) (v : V) : Prop := ∃ a dx, v = .ref a ∧ G a = some (.ins C dx fs)
section
variable {α : Type} {r : R α} {K : PySem.W.Frag} {C a dx : Addr} {fs : List (Str × V)} {G G' H : Hp} {O : Own} {v u : V} {Q : VK} {f m : Str} {P : Prop}
theorem InsAt.up (e : Ext G G') (h : InsAt C fs G v) : InsAt C fs G' v := let ⟨a, dx, e1, e2⟩ := h; ⟨a, dx, e1, e _ _ e2⟩
theorem frz_I (S : Sub G ((a, .ins C dx fs) :: O) H) : ∃ G', Ext G G' ∧ Sub G' O H ∧ InsAt C fs G' (.ref a) := ⟨_, S.extFrz, S.frz, a, dx, rfl, upd_same⟩
theorem frz_D {ks : List (L2.Key × V)} (S : Sub G ((a, .dK ks) :: O) H) : ∃ G', Ext G G' ∧ Sub G' O H ∧ G' a = some (.dK ks) := ⟨_, S.extFrz, S.frz, upd_same⟩
theorem q_fld (S : Sub G O H) (h : InsAt C fs G v) (c : Cls K C) (n : NoAttr K C f) (l : fs.lookup f = some u) (q : Q u H) : ∃ a C dx fs u, v = .ref a ∧ H a = some (.ins C dx fs) ∧ Cls K C ∧ NoAttr K C f ∧ fs.lookup f = some u ∧ Q u H :=
  let ⟨a, dx, e1, e2⟩ := h; ⟨a, C, dx, fs, u, e1, S.ext _ _ e2, c, n, l, q⟩
theorem q_mth (S : Sub G O H) (h : InsAt C fs G v) (l : fs.lookup m = none) (q : P) : ∃ a dx fs, v = .ref a ∧ H a = some (.ins C dx fs) ∧ fs.lookup m = none ∧ P :=
  let ⟨a, dx, e1, e2⟩ := h; ⟨a, dx, fs, e1, S.ext _ _ e2, l, q⟩
theorem ins_prop (S : Sub G O H) (h : InsAt C fs G v) : ∃ a dx, v = .ref a ∧ H a = some (.ins C dx fs) := let ⟨a, dx, e1, e2⟩ := h; ⟨a, dx, e1, S.ext _ _ e2⟩
end
/-- an instance of which one attribute is known -/
def rIP {α : Type} (C : Addr) (f : Str) (r : R α) : R α := ⟨fun G v x => ∃ (fs : List (Str × V)) (u : V), InsAt C fs G v ∧ fs.lookup f = some u ∧ r.rel G u x, fun e ⟨fs, u, h1, h2, h3⟩ => ⟨fs, u, h1.up e, h2, r.mono e h3⟩⟩
/-! making -/
def mkMk (C : Addr) (sp : Sp) (E : XK) (vs : List V) (H1 : Hp) (Q : VK) : Prop := ∀ x dx, H1 x = none → H1 dx = none → dx ≠ x → sp (.ref x :: vs) (upd (upd H1 dx (.own x)) x (.ins C dx [])) (fun v H2 => v = .non ∧ Q (.ref x) H2) E
theorem gMake {C : Addr} {sp : Sp} {dvs : List V} {E : XK} {t : TA} {σ : L2.St} {H : Hp} {Q : VK} (h : t σ H fun vs H1 => mkMk C sp E (vs ++ dvs) H1 Q) : tMake C sp dvs E t σ H Q := h
theorem gMeth {C : Addr} {m : Str} {sp : Sp} {dvs : List V} {E : XK} {ta : TE} {t : TA} {σ : L2.St} {H : Hp} {Q : VK} (h : ta σ H fun x H1 => ∃ a dx fs, x = .ref a ∧ H1 a = some (.ins C dx fs) ∧ fs.lookup m = none ∧ t σ H1 fun vs H2 => sp (x :: (vs ++ dvs)) H2 Q E) : tMeth C m sp dvs E ta t σ H Q := h
theorem mk_step {C : Addr} {sp : Sp} {E : XK} {vs : List V} {G H : Hp} {O : Own} {Q : VK} (S : Sub G O H) (q : ∀ (x dx : Addr) (H' : Hp), Sub G ((x, .ins C dx []) :: O) H' → sp (.ref x :: vs) H' (fun v H2 => v = .non ∧ Q (.ref x) H2) E) : mkMk C sp E vs H Q := by
  intro x dx hx hd hn
  have hx1 : upd H dx (.own x) x = none := by rw [upd_ne (Ne.symm hn)]; exact hx
  exact q x dx _ ((S.junk hd).newOwn hx1)
section
variable {ta tv : TE} {σ : L2.St} {H : Hp} {Q : VK} {D : Ends} {K : PySem.W.Frag} {f : Str} {tr : TS}
theorem gFld (h : ta σ H fun x H1 => ∃ a C dx fs v, x = .ref a ∧ H1 a = some (.ins C dx fs) ∧ Cls K C ∧ NoAttr K C f ∧ fs.lookup f = some v ∧ Q v H1) : tFld K ta f σ H Q := h
theorem gSFld (h : tv σ H fun y H1 => ta σ H1 fun x H2 => ∃ a C dx fs, x = .ref a ∧ H2 a = some (.ins C dx fs) ∧ Cls K C ∧ NoAttr K C f ∧ fs.length < 1000 ∧ D.nx σ (upd H2 a (.ins C dx (putF f y fs)))) : sFld K ta tv f D σ H := h
theorem gS_SFld (h : tv σ H fun y H1 => ta σ H1 fun x H2 => ∃ a C dx fs, x = .ref a ∧ H2 a = some (.ins C dx fs) ∧ Cls K C ∧ NoAttr K C f ∧ fs.length < 1000 ∧ tr D σ (upd H2 a (.ins C dx (putF f y fs)))) : tSeq (sFld K ta tv f) tr D σ H := h
theorem gDNew (h : ∀ p, H p = none → Q (.ref p) (upd H p (.dK []))) : tDNewK σ H Q := h
variable {td ty : TE}
theorem gDGet (h : td σ H fun x H1 => ty σ H1 fun y H2 => ∃ a v, x = .ref a ∧ DGet H2 a y (some v) ∧ Q v H2) : tDGet td ty σ H Q := h
theorem gDPut (h : tv σ H fun v H1 => td σ H1 fun x H2 => ty σ H2 fun y H3 => ∃ a H4, x = .ref a ∧ DPut H3 a y v H4 ∧ D.nx σ H4) : sDPut td ty tv D σ H := h
theorem gS_DPut (h : tv σ H fun v H1 => td σ H1 fun x H2 => ty σ H2 fun y H3 => ∃ a H4, x = .ref a ∧ DPut H3 a y v H4 ∧ tr D σ H4) : tSeq (sDPut td ty tv) tr D σ H := h
end
/-! ### dicts with text keys -/
def AlD {α : Type} (r : R α) (G : Hp) : List (L2.Key × V) → List (Wrd × α) → Prop
  | [], [] => True
  | (k, v) :: ks, (w, x) :: xs => k = .inr (e_T w) ∧ r.rel G v x ∧ AlD r G ks xs
  | _, _ => False
section
variable {α : Type} {r : R α} {K : PySem.W.Frag} {G G' H : Hp} {O : Own} {d : Addr} {v u : V} {w : Wrd} {x : α} {Q : VK}
theorem AlD.up (e : Ext G G') : ∀ {ks : List (L2.Key × V)} {kvs : List (Wrd × α)}, AlD r G ks kvs → AlD r G' ks kvs
  | [], [], _ => True.intro
  | (_, _) :: _, (_, _) :: _, h => ⟨h.1, r.mono e h.2.1, AlD.up e h.2.2⟩
  | [], _ :: _, h => h.elim
  | (_, _) :: _, [], h => h.elim
theorem AlD.len : ∀ {ks : List (L2.Key × V)} {kvs : List (Wrd × α)}, AlD r G ks kvs → ks.length = kvs.length
  | [], [], _ => rfl
  | (_, _) :: _, (_, _) :: _, h => congrArg Nat.succ (AlD.len h.2.2)
  | [], _ :: _, h => h.elim
  | (_, _) :: _, [], h => h.elim
theorem key_eq {w w2 : Wrd} : ((.inr (e_T w2) : L2.Key) = .inr (e_T w)) ↔ w2 = w := ⟨fun h => e_T_inj _ _ (Sum.inr.inj h), fun h => by rw [h]⟩
theorem AlD.get : ∀ {ks : List (L2.Key × V)} {kvs : List (Wrd × α)}, AlD r G ks kvs → getW kvs w = some x → ∃ v, valV ks (.inr (e_T w)) = some v ∧ r.rel G v x
  | [], [], _, e => by cases e
  | (k, v) :: ks, (w2, y) :: kvs, h, e => by
    obtain ⟨rfl, h2, h3⟩ := h
    by_cases c : w2 = w
    · subst c
      refine ⟨v, by simp [valV], ?_⟩
      have : y = x := by simpa [getW] using e
      rw [← this]; exact h2
    · have e' : getW kvs w = some x := by
        unfold getW at e ⊢
        rwa [List.find?_cons_of_neg (by simpa using c)] at e
      obtain ⟨u, k1, k2⟩ := AlD.get h3 e'
      refine ⟨u, ?_, k2⟩
      unfold valV at k1 ⊢
      rw [List.find?_cons_of_neg (by simpa using fun z => c (e_T_inj _ _ z))]
      exact k1
  | [], _ :: _, h, _ => h.elim
  | (_, _) :: _, [], h, _ => h.elim
theorem AlD.any : ∀ {ks : List (L2.Key × V)} {kvs : List (Wrd × α)}, AlD r G ks kvs → (ks.any fun p => decide (p.1 = .inr (e_T w))) = kvs.any fun p => decide (p.1 = w)
  | [], [], _ => rfl
  | (k, v) :: ks, (w2, y) :: kvs, h => by
    obtain ⟨rfl, _, h3⟩ := h
    rw [List.any_cons, List.any_cons, AlD.any h3]
    congr 1
    exact decide_eq_decide.mpr key_eq
  | [], _ :: _, h => h.elim
  | (_, _) :: _, [], h => h.elim
theorem AlD.mapPut (hv : r.rel G u x) : ∀ {ks : List (L2.Key × V)} {kvs : List (Wrd × α)}, AlD r G ks kvs → AlD r G (ks.map fun p => if p.1 = .inr (e_T w) then (p.1, u) else p) (kvs.map fun p => if p.1 = w then (p.1, x) else p)
  | [], [], _ => True.intro
  | (k, v) :: ks, (w2, y) :: kvs, h => by
    obtain ⟨rfl, h2, h3⟩ := h
    rw [List.map_cons, List.map_cons]
    have ih := AlD.mapPut hv h3
    by_cases c : w2 = w
    · rw [if_pos (key_eq.mpr c), if_pos c]
      exact ⟨rfl, hv, ih⟩
    · rw [if_neg (fun z => c (key_eq.mp z)), if_neg c]
      exact ⟨rfl, h2, ih⟩
  | [], _ :: _, h => h.elim
  | (_, _) :: _, [], h => h.elim
theorem AlD.app : ∀ {ks ks' : List (L2.Key × V)} {kvs kvs' : List (Wrd × α)}, AlD r G ks kvs → AlD r G ks' kvs' → AlD r G (ks ++ ks') (kvs ++ kvs')
  | [], _, [], _, _, h => h
  | (_, _) :: _, _, (_, _) :: _, _, h, h' => ⟨h.1, h.2.1, AlD.app h.2.2 h'⟩
  | [], _, _ :: _, _, h, _ => h.elim
  | (_, _) :: _, _, [], _, h, _ => h.elim
theorem AlD.put {ks : List (L2.Key × V)} {kvs : List (Wrd × α)} (h : AlD r G ks kvs) (hv : r.rel G u x) : AlD r G (putK ks (.inr (e_T w)) u) (putW kvs w x) := by
  unfold putK putW
  rw [AlD.any h]
  by_cases c : (kvs.any fun p => decide (p.1 = w)) = true
  · rw [if_pos c, if_pos c]; exact h.mapPut hv
  · rw [if_neg c, if_neg c]; exact h.app ⟨rfl, hv, True.intro⟩
def rSD (r : R α) : R (List (Wrd × α)) := ⟨fun G v kvs => ∃ p ks, v = .ref p ∧ G p = some (.dK ks) ∧ AlD r G ks kvs, fun e ⟨p, ks, h1, h2, h3⟩ => ⟨p, ks, h1, e _ _ h2, h3.up e⟩⟩
theorem q_dget {kvs : List (Wrd × α)} (S : Sub G O H) (h : (rSD r).rel G v kvs) (e : getW kvs w = some x) (q : ∀ u, r.rel G u x → Q u H) : ∃ a v', v = .ref a ∧ DGet H a (.str (e_T w)) (some v') ∧ Q v' H := by
  obtain ⟨p, ks, rfl, hp, ha⟩ := h
  obtain ⟨u, k1, k2⟩ := ha.get e
  exact ⟨p, u, rfl, .inl ⟨ks, .inr (e_T w), .inl (S.ext _ _ hp), rfl, k1.symm⟩, q u k2⟩
theorem q_dput {kvs kvs' : List (Wrd × α)} {ks : List (L2.Key × V)} {P : Hp → Prop} (S : Sub G ((d, .dK ks) :: O) H) (h : AlD r G ks kvs) (hv : r.rel G u x) (e : putWM kvs w x = some kvs') (q : ∀ H' ks', Sub G ((d, .dK ks') :: O) H' → AlD r G ks' kvs' → P H') :
    ∃ a H4, V.ref d = .ref a ∧ DPut H a (.str (e_T w)) u H4 ∧ P H4 := by
  obtain ⟨c, rfl⟩ := ifS e
  exact ⟨d, _, rfl, .inl ⟨ks, .inr (e_T w), S.head, rfl, szl (by rw [h.len]; exact c), rfl⟩, q _ _ S.wr (h.put hv)⟩
end
end Mr

set_option Elab.async false
set_option linter.all false
set_option maxRecDepth 100000
set_option maxHeartbeats 2000000
/-! RepS: repr and format of nested data, whatever is under way: some text of at most so many signs. -/
namespace PySem
open PySem.Spec PyProof.Rows
def KpH (h h' : Heap) : Prop := ∀ b o, h.get? b = some o → h'.get? b = some o
def ReprS (prog : Program) (w : World) (h₀ : Heap) (d L : Nat) (x : Value) : Prop :=
  ∀ (base : Nat), base + L ≤ sizeLine → ∀ (A : Around) (E : Value → Shared → Prop) (s : Shared) (Q : Str → Shared → Prop), A.units + d < cLine → KpH h₀ s.heap →
    (∀ t h' tk, t.length ≤ L → KpH s.heap h' → Q t { s with heap := h', toks := tk }) → wpAny (model prog w) A (pyReprUnder base x) Q E s
section
variable {prog : Program} {w : World} {h₀ : Heap} {d L : Nat}
theorem ReprS.of_is {x : Value} {t : Str} (h : ReprIs prog w x t) (hl : t.length ≤ L) : ReprS prog w h₀ d L x :=
  fun base hb A E s Q _ _ hQ => h base (by omega) A E s Q fun tk => hQ t s.heap tk hl fun _ _ e => e
theorem ReprS.mono {x : Value} {d' L' : Nat} (h : ReprS prog w h₀ d L x) (hd : d ≤ d') (hL : L ≤ L') : ReprS prog w h₀ d' L' x :=
  fun base hb A E s Q hu hk hQ => h base (by omega) A E s Q (by omega) hk fun t h' tk ht hk' => hQ t h' tk (by omega) hk'
end
inductive ReprAllS (prog : Program) (w : World) (h₀ : Heap) (d : Nat) : List Value → List Nat → Prop
  | nil : ReprAllS prog w h₀ d [] []
  | cons {x : Value} {L : Nat} {l : List Value} {Ls : List Nat} : ReprS prog w h₀ d L x → ReprAllS prog w h₀ d l Ls → ReprAllS prog w h₀ d (x :: l) (L :: Ls)
def sumS (Ls : List Nat) : Nat := (Ls.map (· + 2)).sum
theorem sumS_cons (a : Nat) (l : List Nat) : sumS (a :: l) = a + 2 + sumS l := by simp [sumS]
section
variable {prog : Program} {w : World} {A : Around} {E : Value → Shared → Prop} {h₀ : Heap} {d : Nat}
theorem wpAny_tupFoldS (hu : A.units + d < cLine) : ∀ (l : List Value) (Ls : List Nat) (acc : Array Str) (n : Nat) (s : Shared) (Q : (Array Str × Nat) → Shared → Prop), ReprAllS prog w h₀ d l Ls → n + sumS Ls ≤ sizeLine → KpH h₀ s.heap →
    (∀ (ts : List Str) h' tk, ts.length = l.length → piled ts ≤ sumS Ls → KpH s.heap h' → Q ⟨acc ++ ts.toArray, n + piled ts⟩ { s with heap := h', toks := tk }) →
    wpAny (model prog w) A (forIn l (⟨acc, n⟩ : (Array Str × Nat)) tupBody) Q E s := by
  intro l
  induction l with
  | nil =>
    intro Ls acc n s Q hT _ _ h
    cases hT
    have h0 := h [] s.heap s.toks rfl (Nat.zero_le _) fun _ _ e => e
    simp only [List.forIn_nil]
    exact wpAny_pure (by simpa [piled] using h0)
  | cons x l ih =>
    intro Ls acc n s Q hT hn hk0 h
    cases hT with
    | cons hx hl =>
      rename_i L Ls'
      rw [sumS_cons] at hn
      rw [List.forIn_cons]
      refine wpAny_bind (wpAny_bind (hx (n + 1) (by omega) _ _ _ _ hu hk0 fun t h' tk ht hkp => wpAny_pure ?_))
      refine ih Ls' (acc.push t) (n + (t.length + 2)) _ Q hl (by omega) (fun b o e => hkp _ _ (hk0 _ _ e)) fun ts h'' tk' hts hpl hk2 => ?_
      have h1 := h (t :: ts) h'' tk' (by simp [hts]) (by rw [piled_cons, sumS_cons]; omega) fun b o e => hk2 _ _ (hkp _ _ e)
      have e : n + piled (t :: ts) = n + (t.length + 2) + piled ts := by rw [piled_cons]; omega
      rw [e] at h1
      simpa using h1
end
section
variable {prog : Program} {w : World} {h₀ : Heap} {d : Nat} {a : Addr} {o : Obj} {items : Array Value} {n : Nat} {Ls : List Nat}
theorem wpAny_tuple_reprAtS {A : Around} {s : Shared} {R : Result → Shared → Prop} {base : Nat} {A0 : Around} (ha : h₀.get? a = some o) (hd : o.data = .seq items n) (hT : ReprAllS prog w h₀ d items.toList Ls) (hu : A.units + d < cLine) (hk0 : KpH h₀ s.heap)
    (hR : ∀ (m : Str) h' u tk, m.length ≤ sumS Ls + 7 → KpH s.heap h' → R (.ok (.ret (.str m u))) { s with heap := h', toks := tk }) (hsz : base + (sumS Ls + 7) ≤ sizeLine) :
    wpAny (model prog w) A (Builtin.tupleReprAt base ⟨[.ref a], []⟩) (fun fin s' => match fin with | .done f => R (.ok f) s' | .again c' => c'.quiet = true ∧ codeAny (model prog w) A0 c' R s') (fun e s' => R (.error e) s') s := by
  rw [tuple_repr_tree]
  refine wpAny_bind (fmt_underWay fun b => ?_)
  cases b with
  | true =>
    refine PySem.W.KFB.if_so rfl ?_
    refine wpAny_bind (wpAny_rule ?_)
    refine wpAny_bind (wpAny_mkStr (wpAny_pure ?_) (by decide +kernel))
    exact hR "(...)" s.heap _ _ (Nat.le_trans fmt_way (by omega)) fun _ _ e => e
  | false =>
    refine PySem.W.KFB.if_not rfl ?_
    unfold tupleReprRest Builtin.Tuple.tupleItemsOf
    refine wpAny_bind (wpAny_bind (wpAny_seqItems (hk0 _ _ ha) hd (wpAny_pure ?_)))
    rw [← Array.forIn_toList]
    refine wpAny_bind (wpAny_tupFoldS hu _ Ls _ _ _ _ hT (by omega) hk0 fun ts h' tk hlen hpl hkp => ?_)
    have hl : ts.length = items.size := by simpa using hlen
    have htx := fmt_text ts
    refine wpAny_bind (wpAny_mkStr (wpAny_pure ?_) (by have : (tupleText ts).length ≤ sizeLine := by omega
                                                       simpa [tupleText, hl] using this))
    have h1 := hR (tupleText ts) h' tk (tk + 1) (by omega) hkp
    simpa [tupleText, hl] using h1
theorem call_tuple_reprS {A : Around} {E : Value → Shared → Prop} {s : Shared} {Q : Value → Shared → Prop} (ha : h₀.get? a = some o) (hc : o.cls = .type "tuple") (hd : o.data = .seq items n) (hT : ReprAllS prog w h₀ d items.toList Ls) (hu : A.units + (d + 1) < cLine) (hk0 : KpH h₀ s.heap)
    (hQ : ∀ (m : Str) h' u tk, m.length ≤ sumS Ls + 7 → KpH s.heap h' → Q (.str m u) { s with heap := h', toks := tk }) (hsz : sumS Ls + 7 ≤ sizeLine) :
    wpAny (model prog w) A (call (.builtin "tuple.__repr__") [.ref a]) Q E s :=
  wpAny_call (codeAny_call_builtin_own (Code.quiet_builtin _ (by decide +kernel)) F.entry_tuple_repr (F.slot_tuple_repr.check _ _ _ _ _ _ _ _ ⟨o, hk0 _ _ ha, hc⟩ (F.args_tuple_repr_1 _)
    (wpOwn_of_wpAny (wpAny_tuple_reprAtS (base := 0) (R := callEnd Q E) ha hd hT (by rw [units_under_tuple_repr]; omega) hk0 hQ (by omega)))))
theorem ReprS.tuple (ha : h₀.get? a = some o) (hc : o.cls = .type "tuple") (hd : o.data = .seq items n) (hT : ReprAllS prog w h₀ d items.toList Ls) : ReprS prog w h₀ (d + 1) (sumS Ls + 7) (.ref a) := by
  intro base hb A E s Q hu hk0 hQ
  refine wpAny_pyReprUnder_ref (by omega) (wpAny_pyReprObjUnder_twin (twin := "tuple.__repr__.under") ⟨o, hk0 _ _ ha, hc⟩ F.slot_tuple_repr rfl (by omega) ?_)
  refine call_twin_own (F.quiet_tuple_repr_under _) F.entry_tuple_repr_under F.check_tuple_repr_under ⟨o, hk0 _ _ ha, hc⟩ F.slot_tuple_repr (F.args_tuple_repr_1 _) (wpOwn_of_wpAny ?_)
  exact wpAny_tuple_reprAtS (R := callEnd _ E) ha hd hT (by rw [units_under_tuple_repr_under]; omega) hk0 (fun m h' u tk hm hk => ⟨⟨_, _, rfl⟩, ⟨_, _, rfl, hQ m h' tk hm hk⟩⟩) hb
end
open Sem in
theorem wpAny_list_repr_headS {M : Model} {A : Around} {E : Value → Shared → Prop} {s : Shared} {Q : Fin → Shared → Prop} {a : Addr} {o : Obj} {x : Value} {l : List Value} {n : Nat} {b : Nat}
    (hget : s.heap.get? a = some o) (hd : o.data = .seq (x :: l).toArray n)
    (h2 : wpAny M A (do rule "list.__repr__.in-itself"; retStr "[...]") Q E s)
    (h : wpAny M A (do again (.builtin "list.__repr__.loop" ⟨[.ref a, rawInt 0, ← newList [], rawInt b], []⟩)) Q E s) : wpAny M A (Builtin.listReprAt b ⟨[.ref a], []⟩) Q E s := by
  intro Γ p hΓ
  have h1 := h Γ p hΓ
  have h3 := h2 Γ p hΓ
  unfold Builtin.listReprAt
  simp [slotArgs, Builtin.List.listItems, seqItems?, wp_load_of (h := hget), hd, stack]
  show wp M Γ (if (Γ.below.any _) = true then _ else _) _ _ p s
  split
  · simpa using h3
  · exact h1
theorem list_text_le : ∀ ts : List Str, (listText ts).length ≤ piled ts + 2
  | [] => by decide +kernel
  | t :: r => by
    have h := textFrom_length_pos r 1 (("[" : Str) ++ (if (0 : Nat) > 0 then ", " else "" : String) ++ t) (Nat.succ_pos 0)
    have e : ((("[" : Str) ++ (if (0 : Nat) > 0 then ", " else "" : String) ++ t)).length = 1 + t.length := by
      rw [strLen_append, strLen_append]; rfl
    have hX : (listText (t :: r)).length = (textFrom 1 (("[" : Str) ++ (if (0 : Nat) > 0 then ", " else "" : String) ++ t) r).length + 1 := by
      show (textFrom 0 "[" (t :: r) ++ "]").length = _
      rw [strLen_append]; rfl
    rw [hX, h, e, piled_cons]; omega
theorem ReprAllS.item {prog : Program} {w : World} {h₀ : Heap} {d : Nat} : ∀ {l : List Value} {Ls : List Nat}, ReprAllS prog w h₀ d l Ls → ∀ (i : Nat) (x : Value), l[i]? = some x → ∃ L, Ls[i]? = some L ∧ ReprS prog w h₀ d L x
  | _, _, .nil, i, x, h => by simp at h
  | _, _, .cons h hl, 0, x, e => by cases e; exact ⟨_, rfl, h⟩
  | _, _, .cons h hl, i + 1, x, e => hl.item i x e
theorem sumS_take_succ {Ls : List Nat} {i L : Nat} (h : Ls[i]? = some L) : sumS (Ls.take (i + 1)) = sumS (Ls.take i) + (L + 2) := by
  rw [List.take_add_one, h]
  simp [sumS]
theorem sumS_take_le (Ls : List Nat) (i : Nat) : sumS (Ls.take i) ≤ sumS Ls := by
  have h : sumS Ls = sumS (Ls.take i) + sumS (Ls.drop i) := by
    have : sumS (Ls.take i ++ Ls.drop i) = sumS (Ls.take i) + sumS (Ls.drop i) := by simp only [sumS, List.map_append, List.sum_append]
    rw [← this, List.take_append_drop]
  omega
open Builtin Builtin.List in
theorem codeAny_list_repr_loopS {prog : Program} {w : World} {A : Around} {R : Result → Shared → Prop} {a P : Addr} (hne : a ≠ P) {items : Array Value} {Ls : List Nat} {h₀ : Heap} {d base : Nat} (hu : A.units + (d + 1) < cLine) (hPf : h₀.get? P = none)
    (hT : ReprAllS prog w h₀ d items.toList Ls) (hsi : items.size ≤ sizeLine) (hsz : base + (sumS Ls + 7) ≤ sizeLine) :
    ∀ (k i : Nat) (s : Shared) (oa : Obj) (na : Nat) (acc : Array Value) (c : Nat) (done : List (Str × Tok)), items.size - i = k → i ≤ items.size → KpH h₀ s.heap →
    s.heap.get? a = some oa → oa.data = .seq items na →
    s.heap.get? P = some { cls := .type "list", dict := none, data := .seq acc c, slots := #[] } → acc.toList = strValues done → done.length = i → piled (done.map (·.1)) ≤ sumS (Ls.take i) →
    (∀ (m : Str) h' u tk, m.length ≤ sumS Ls + 7 → (∀ b o, b ≠ P → s.heap.get? b = some o → h'.get? b = some o) → R (.ok (.ret (.str m u))) { s with heap := h', toks := tk }) →
    codeAny (model prog w) A (.builtin "list.__repr__.loop" ⟨[.ref a, rawInt i, .ref P, rawInt ((base + piled (done.map (·.1)) : Nat) : Int)], []⟩) R s := by
  intro k
  induction k with
  | zero =>
    intro i s oa na acc c done hk hi hk0 ha hda hP hacc hdone hpl hR
    have hin : i = items.size := by omega
    have hp2 := sumS_take_le Ls i
    have hlt := list_text_le (done.map (·.1))
    refine codeAny_builtin F.entry_list_repr_loop ?_
    show wpAny _ _ («list.__repr__.loop» ⟨[.ref a, .int i 0, .ref P, .int ((base + piled (done.map (·.1)) : Nat) : Int) 0], []⟩) _ _ s
    rw [repr_loop_tree]
    refine wpAny_bind (wpAny_listItems ha hda ?_)
    have hnone : items[(i : Int).toNat]? = none := by simp [hin]
    simp only [hnone]
    unfold reprEnd
    refine wpAny_bind (wpAny_listItems hP rfl ?_)
    rw [hacc, repr_fold]
    refine wpAny_bind (wpAny_pure ?_)
    refine wpAny_bind (wpAny_mkStr (wpAny_pure ?_) (by show (listText (done.map (·.1))).length ≤ _; omega))
    exact hR (listText (done.map (·.1))) s.heap _ _ (by omega) (fun _ _ _ e => e)
  | succ k ih =>
    intro i s oa na acc c done hk hi hk0 ha hda hP hacc hdone hpl hR
    have hlt : i < items.size := by omega
    obtain ⟨L, hL, hrep⟩ := hT.item i items[i] (by simp [hlt])
    have hp1 := sumS_take_succ hL
    have hp2 := sumS_take_le Ls (i + 1)
    refine codeAny_builtin F.entry_list_repr_loop ?_
    show wpAny _ _ («list.__repr__.loop» ⟨[.ref a, .int i 0, .ref P, .int ((base + piled (done.map (·.1)) : Nat) : Int) 0], []⟩) _ _ s
    rw [repr_loop_tree]
    refine wpAny_bind (wpAny_listItems ha hda ?_)
    have hsome : items[(i : Int).toNat]? = some items[i] := by simp [hlt]
    simp only [hsome]
    rw [Int.toNat_natCast]
    refine wpAny_bind (wpAny_holding (hrep (base + piled (done.map (·.1)) + 1) (by omega) _ _ _ _ (by rw [units_under_list_loop]; omega) hk0 fun t h' tk ht hkp => ?_))
    refine wpAny_bind (wpAny_mkStr ?_ (by omega))
    refine wpAny_bind ?_
    show wpAny _ _ (updateSeq P _) _ _ _
    have hasz : acc.size ≤ sizeLine := by
      have e1 : acc.toList.length = acc.size := by simp
      have e2 : (strValues done).length = done.length := by simp [strValues]
      rw [hacc] at e1; omega
    refine wpAny_updateSeq (hkp _ _ hP) rfl (wpAny_pure ⟨F.quiet_list_repr_loop _, ?_⟩) hasz
    have e1 : ((i : Int) + 1) = ((i + 1 : Nat) : Int) := by omega
    have e3 : (done ++ [(t, tk)]).map (·.1) = done.map (·.1) ++ [t] := by simp
    have e4 : piled ((done ++ [(t, tk)]).map (·.1)) = piled (done.map (·.1)) + (t.length + 2) := by rw [e3, piled_append, piled_cons, piled_nil]
    have e2 : base + piled (done.map (·.1)) + (t.length + 2) = base + piled ((done ++ [(t, tk)]).map (·.1)) := by omega
    rw [e1, e2]
    refine ih (i + 1) _ oa na (acc.push (.str t tk)) _ (done ++ [(t, tk)]) (by omega) hlt (fun b o e => (Heap.get?_update_other _ _ (fun h : P = b => by rw [← h, hPf] at e; cases e)).trans (hkp _ _ (hk0 _ _ e))) ((Heap.get?_update_other _ _ (fun h : P = a => hne h.symm)).trans (hkp _ _ ha)) hda (Heap.get?_update_self _ (hkp _ _ hP) rfl) (by simp [hacc, strValues]) (by simp [hdone]) (by omega) fun m h'' u tk' hm hh => ?_
    exact hR m h'' u tk' hm fun b o hb e => hh b o hb ((Heap.get?_update_other _ _ (fun h : P = b => hb h.symm)).trans (hkp _ _ e))
end PySem

set_option Elab.async false
set_option linter.all false
set_option maxRecDepth 100000
set_option maxHeartbeats 2000000
/-! RepD: format of any data. -/
namespace PySem
open PySem.Spec PyProof.Rows
section
variable {prog : Program} {w : World} {h₀ : Heap} {d : Nat} {a : Addr} {o : Obj} {x : Value} {l : List Value} {n : Nat} {Ls : List Nat}
theorem wpAny_list_reprAtS {A : Around} {s : Shared} {R : Result → Shared → Prop} {base : Nat} (ha : h₀.get? a = some o) (hd : o.data = .seq (x :: l).toArray n) (hT : ReprAllS prog w h₀ d (x :: l) Ls) (hu : A.units + (d + 1) < cLine) (hk0 : KpH h₀ s.heap)
    (hsi : (x :: l).length ≤ sizeLine) (hR : ∀ (m : Str) h' u tk, m.length ≤ sumS Ls + 7 → KpH s.heap h' → R (.ok (.ret (.str m u))) { s with heap := h', toks := tk }) (hsz : base + (sumS Ls + 7) ≤ sizeLine) :
    wpAny (model prog w) A.in1 (Builtin.listReprAt base ⟨[.ref a], []⟩) (fun fin s' => match fin with | .done f => R (.ok f) s' | .again c' => c'.quiet = true ∧ codeAny (model prog w) A c' R s') (fun e s' => R (.error e) s') s := by
  have hPf : h₀.get? s.heap.objs.size = none := by
    cases e : h₀.get? s.heap.objs.size with
    | none => rfl
    | some o => exact absurd (Heap.lt_size (hk0 _ _ e)) (Nat.lt_irrefl _)
  refine wpAny_list_repr_headS (A := A.in1) (hk0 _ _ ha) hd ?_ ?_
  · refine wpAny_bind (wpAny_rule ?_)
    refine wpAny_bind (wpAny_mkStr (wpAny_pure ?_) (by decide +kernel))
    exact hR "[...]" s.heap _ _ (Nat.le_trans (show ("[...]" : Str).length ≤ 5 by decide +kernel) (by omega)) fun _ _ e => e
  · refine wpAny_bind (m := newList []) (wpAny_newObj_type ?_)
    refine wpAny_pure ⟨F.quiet_list_repr_loop _, ?_⟩
    exact codeAny_list_repr_loopS (P := s.heap.objs.size) (items := (x :: l).toArray) (Nat.ne_of_lt (Heap.lt_size (hk0 _ _ ha))) hu hPf (by simpa using hT) (by simpa using hsi) hsz _ 0 _ o n #[] _ [] rfl (Nat.zero_le _)
      (fun b o e => Heap.get?_push_of_some _ (hk0 _ _ e)) (Heap.get?_push_of_some _ (hk0 _ _ ha)) hd (Heap.get?_push_size _ rfl) rfl rfl (Nat.zero_le _) fun m h' u tk hm hk => hR m h' u tk hm fun b o e => hk b o (Nat.ne_of_lt (Heap.lt_size e)) (Heap.get?_push_of_some _ e)
theorem call_list_reprS {A : Around} {E : Value → Shared → Prop} {s : Shared} {Q : Value → Shared → Prop} (ha : h₀.get? a = some o) (hc : o.cls = .type "list") (hd : o.data = .seq (x :: l).toArray n) (hT : ReprAllS prog w h₀ d (x :: l) Ls) (hu : A.units + (d + 1) < cLine) (hk0 : KpH h₀ s.heap)
    (hsi : (x :: l).length ≤ sizeLine) (hQ : ∀ (m : Str) h' u tk, m.length ≤ sumS Ls + 7 → KpH s.heap h' → Q (.str m u) { s with heap := h', toks := tk }) (hsz : sumS Ls + 7 ≤ sizeLine) :
    wpAny (model prog w) A (call (.builtin "list.__repr__") [.ref a]) Q E s :=
  wpAny_call (codeAny_call_builtin F.slot_list_repr.plain F.entry_list_repr (F.slot_list_repr.check _ _ _ _ _ _ _ _ ⟨o, hk0 _ _ ha, hc⟩ (F.args_list_repr_1 _)
    (wpAny_list_reprAtS (base := 0) (R := callEnd Q E) ha hd hT hu hk0 hsi hQ (by omega))))
theorem ReprAllS.len2 : ∀ {l : List Value} {Ls : List Nat}, ReprAllS prog w h₀ d l Ls → 2 * l.length ≤ sumS Ls
  | _, _, .nil => Nat.zero_le _
  | _, _, .cons _ h => by have := h.len2; rw [sumS_cons, List.length_cons]; omega
theorem ReprAllS.mono {d' : Nat} (hd : d ≤ d') : ∀ {l : List Value} {Ls : List Nat}, ReprAllS prog w h₀ d l Ls → ReprAllS prog w h₀ d' l Ls
  | _, _, .nil => .nil
  | _, _, .cons h hl => .cons (h.mono hd (Nat.le_refl _)) (ReprAllS.mono hd hl)
theorem ReprS.list (ha : h₀.get? a = some o) (hc : o.cls = .type "list") (hd : o.data = .seq (x :: l).toArray n) (hT : ReprAllS prog w h₀ d (x :: l) Ls) : ReprS prog w h₀ (d + 1) (sumS Ls + 7) (.ref a) := by
  intro base hb A E s Q hu hk0 hQ
  have hsi : (x :: l).length ≤ sizeLine := by have := hT.len2; omega
  refine wpAny_pyReprUnder_ref (by omega) (wpAny_pyReprObjUnder_twin (twin := "list.__repr__.under") ⟨o, hk0 _ _ ha, hc⟩ F.slot_list_repr.toG rfl (by omega) ?_)
  refine call_twin_plain F.plain_list_repr_under F.entry_list_repr_under F.check_list_repr_under ⟨o, hk0 _ _ ha, hc⟩ F.slot_list_repr.toG (F.args_list_repr_1 _) ?_
  exact wpAny_list_reprAtS (R := callEnd _ E) ha hd hT hu hk0 hsi (fun m h' u tk hm hk => ⟨⟨_, _, rfl⟩, ⟨_, _, rfl, hQ m h' tk hm hk⟩⟩) hb
end
/-! ### data -/
mutual
/-- data that can be shown: at most so many signs -/
def rcost : PyData → Nat
  | .none => 5
  | .bool _ => 5
  | .int i => (Str.ofString (toString i)).length
  | .str y => (reprText y).length
  | .tuple ds => rcostAll ds + 7
  | .list ds => rcostAll ds + 7
  | _ => 0
def rcostAll : List PyData → Nat
  | [] => 0
  | d :: ds => rcost d + 2 + rcostAll ds
end
mutual
def rok : PyData → Bool
  | .none => true
  | .bool _ => true
  | .int i => decide (i.natAbs.log2 < 1920)
  | .str y => decide ((reprText y).length ≤ sizeLine)
  | .tuple ds => rokAll ds
  | .list ds => rokAll ds
  | _ => false
def rokAll : List PyData → Bool
  | [] => true
  | d :: ds => rok d && rokAll ds
end
section
variable {prog : Program} {w : World} {h₀ : Heap}
theorem rcostAll_sum : ∀ ds : List PyData, sumS (ds.map rcost) = rcostAll ds
  | [] => rfl
  | d :: ds => by rw [List.map_cons, sumS_cons, rcostAll_sum ds]; simp only [rcostAll]
mutual
theorem ReprS.of_reads {v : Value} {d : PyData} {as : List Addr} (r : Reads h₀ v d as) (hs : rok d = true) : ReprS prog w h₀ d.depth (rcost d) v := by
  cases r with
  | none => exact ReprS.of_is ReprIs.none (by simp only [rcost]; decide +kernel)
  | bool b => exact ReprS.of_is (ReprIs.bool b) (by simp only [rcost]; cases b <;> decide +kernel)
  | int i t =>
    simp only [rok, decide_eq_true_eq] at hs
    exact ReprS.of_is (ReprIs.int t hs) (by simp only [rcost]; exact Nat.le_refl _)
  | str y t =>
    simp only [rok, decide_eq_true_eq] at hs
    exact ReprS.of_is (ReprIs.str y t hs) (by simp only [rcost]; exact Nat.le_refl _)
  | tuple h1 h2 h3 h4 =>
    rename_i o vs n xs
    simp only [rok] at hs
    have h5 := ReprAllS.of_reads h4 hs
    simp only [rcost, PyData.depth]
    rw [← rcostAll_sum]
    exact (ReprS.tuple h1 h2 h3 h5).mono (by omega) (Nat.le_refl _)
  | list h1 h2 h3 h4 =>
    rename_i o vs n xs bs
    simp only [rok] at hs
    have h5 := ReprAllS.of_reads h4 hs
    simp only [rcost, PyData.depth]
    rw [← rcostAll_sum]
    obtain ⟨l⟩ := vs
    cases l with
    | nil =>
      intro base hb A E s Q hu hk0 hQ
      exact wpAny_pyReprUnder_ref (by omega) (wpAny_pyReprObjUnder_list_empty ⟨o, hk0 _ _ h1, h2⟩ (by omega) (hk0 _ _ h1) h3 ⟨_, _, rfl, hQ "[]" s.heap _ (Nat.le_trans (show ("[]" : Str).length ≤ 2 by decide +kernel) (by omega)) fun _ _ e => e⟩)
    | cons x l => exact (ReprS.list h1 h2 h3 h5).mono (by omega) (Nat.le_refl _)
  | dict h1 h2 h3 h4 h5 => simp [rok] at hs
theorem ReprAllS.of_reads {vs : List Value} {ds : List PyData} {as : List Addr} (r : ReadsAll h₀ vs ds as) (hs : rokAll ds = true) : ReprAllS prog w h₀ (PyData.depthAll ds) vs (ds.map rcost) := by
  cases r with
  | nil => exact .nil
  | cons h1 h2 =>
    rename_i v vs d ds as bs
    simp only [rokAll, Bool.and_eq_true] at hs
    have q1 := ReprS.of_reads h1 hs.1
    have q2 := ReprAllS.of_reads h2 hs.2
    simp only [PyData.depthAll]
    exact .cons (q1.mono (Nat.le_max_left _ _) (Nat.le_refl _)) (q2.mono (Nat.le_max_right _ _))
end
end
/-- {v} of any data: some text -/
theorem formatField_some {prog : Program} {w : World} {A : Around} {E : Value → Shared → Prop} {s : Shared} {Q : Value → Shared → Prop} {v : Value} {d : PyData} {as : List Addr} (r : Reads s.heap v d as) (hs : rok d = true) (hz : rcost d + 10 ≤ sizeLine) (hu : A.units + (d.depth + 2) < cLine)
    (hstr : ∀ y, d = .str y → y.length ≤ sizeLine)
    (hQ : ∀ (m : Str) h' u tk, (m.length ≤ rcost d + 10 ∨ d = .str m) → KpH s.heap h' → Q (.str m u) { s with heap := h', toks := tk }) : wpAny (model prog w) A (formatField v Str.empty) Q E s := by
  have q := ReprS.of_reads (prog := prog) (w := w) r hs
  cases r with
  | none => exact wpAny_formatField_none (hQ "None" s.heap _ _ (.inl (Nat.le_trans (show ("None" : Str).length ≤ 5 by decide +kernel) (by omega))) fun _ _ e => e)
  | bool b =>
    refine wpAny_formatField_bool (hQ _ s.heap _ _ (.inl ?_) fun _ _ e => e)
    have h5 : (Str.ofString (if b then "True" else "False")).length ≤ 5 := by cases b <;> decide +kernel
    have h6 : ∀ z : Str, z.length ≤ 5 → z.length ≤ rcost (.bool b) + 10 := fun z hz => by omega
    refine h6 _ ?_
    cases b <;> decide +kernel
  | int i t =>
    simp only [rok, decide_eq_true_eq] at hs
    exact wpAny_formatField_int hs (hQ _ s.heap _ _ (.inl (by simp only [rcost]; omega)) fun _ _ e => e)
  | str y t => exact wpAny_formatField_str (hQ y s.heap _ _ (.inr rfl) fun _ _ e => e) (hQ y s.heap _ _ (.inr rfl) fun _ _ e => e) (hstr y rfl)
  | tuple h1 h2 h3 h4 =>
    simp only [rok] at hs
    have h5 := ReprAllS.of_reads (prog := prog) (w := w) h4 hs
    simp only [rcost, PyData.depth] at hz hu hQ
    rw [← rcostAll_sum] at hz hQ
    exact wpAny_formatField_slot (fun _ _ => nofun) (by omega) ⟨_, h1, h2⟩ F.slot_tuple_format F.slot_tuple_str F.slot_tuple_repr
      (call_tuple_reprS (A := A.in1.in1) (s := { s with toks := s.toks + 1 }) h1 h2 h3 h5 (by show A.units + 1 + 1 + _ < cLine; omega) (fun _ _ e => e) (fun m h' u tk hm hk => ⟨_, _, rfl, hQ m h' u tk (.inl (by omega)) hk⟩) (by omega))
  | list h1 h2 h3 h4 =>
    rename_i o vs n xs bs
    simp only [rok] at hs
    have h5 := ReprAllS.of_reads (prog := prog) (w := w) h4 hs
    simp only [rcost, PyData.depth] at hz hu hQ
    rw [← rcostAll_sum] at hz hQ
    obtain ⟨l⟩ := vs
    cases l with
    | nil =>
      exact wpAny_formatField_slot (fun _ _ => nofun) (by omega) ⟨_, h1, h2⟩ F.slot_list_format F.slot_list_str F.slot_list_repr.toG
        (call_list_repr_empty (s := { s with toks := s.toks + 1 }) ⟨o, h1, h2⟩ h1 h3 ⟨_, _, rfl, hQ "[]" s.heap _ _ (.inl (Nat.le_trans (show ("[]" : Str).length ≤ 2 by decide +kernel) (by omega))) fun _ _ e => e⟩)
    | cons x l =>
      have hl2 : 2 * (x :: l).length ≤ sumS (List.map rcost xs) := h5.len2
      exact wpAny_formatField_slot (fun _ _ => nofun) (by omega) ⟨_, h1, h2⟩ F.slot_list_format F.slot_list_str F.slot_list_repr.toG
        (call_list_reprS (A := A.in1.in1) (s := { s with toks := s.toks + 1 }) h1 h2 h3 h5 (by show A.units + 1 + 1 + _ < cLine; omega) (fun _ _ e => e) (by omega) (fun m h' u tk hm hk => ⟨_, _, rfl, hQ m h' u tk (.inl (by omega)) hk⟩) (by omega))
  | dict h1 h2 h3 h4 h5 => simp [rok] at hs
end PySem

set_option linter.all false
set_option maxRecDepth 100000
/-! AnyP: plain functions on data of any kind. -/
namespace Mr
open PySem PySem.Spec
def isTup : PyData → Bool
  | .tuple _ => true
  | _ => false
def isLst : PyData → Bool
  | .list _ => true
  | _ => false
def isStr : PyData → Bool
  | .str _ => true
  | _ => false
def isBl : PyData → Bool
  | .bool _ => true
  | _ => false
def isInt : PyData → Bool
  | .int _ => true
  | .bool _ => true
  | _ => false
/-- none: a kind that the rules do not cover -/
def kindA : PyData → Option String
  | .none => some "NoneType"
  | .bool _ => some "bool"
  | .int _ => some "int"
  | .str _ => some "str"
  | .list _ => some "list"
  | .tuple _ => some "tuple"
  | _ => none
def isA (c : String) (d : PyData) : Option Bool := (kindA d).map fun k => match c with
  | "tuple" => k == "tuple"
  | "list" => k == "list"
  | "str" => k == "str"
  | "bool" => k == "bool"
  | "int" => k == "int" || k == "bool"
  | _ => false
def lenA : PyData → Option Int
  | .tuple ds => some (ds.length : Int)
  | .list ds => some (ds.length : Int)
  | _ => none
def ixA (d : PyData) (i : Int) : Option PyData := match d with
  | .tuple ds => getM ds i
  | _ => none
def shA (d : PyData) : Option PyData := if (d.canLay0 && decide (d.depth ≤ 64)) = true then some d else none
theorem shA_some {d e : PyData} (h : shA d = some e) : (d.canLay0 && decide (d.depth ≤ 64)) = true ∧ d = e := by
  unfold shA at h
  split at h
  · rename_i c; exact ⟨c, Option.some.inj h⟩
  · cases h
def eqA (d e : PyData) : Option Bool := (shA d).bind fun d => (shA e).bind fun e => some (PyData.eqv d e)
def inA (d : PyData) (ds : List PyData) : Option Bool := (shA d).bind fun d => (shA (.list ds)).bind fun _ => some (ds.any fun z => PyData.eqv z d)
def fmtB (d : PyData) : Bool := rok d && (decide (rcost d + 10 ≤ 1000000) && (decide (d.depth ≤ 50) && (match d with
  | .str y => decide (y.length ≤ 1000000)
  | _ => true)))
def fmtM (d : PyData) : Option Unit := if fmtB d = true then some () else none
theorem fmtM_some {d : PyData} {u : Unit} (h : fmtM d = some u) : fmtB d = true := by
  unfold fmtM at h
  split at h
  · assumption
  · cases h
def decI : PyData → Option Int
  | .int i => some i
  | _ => none
def decB : PyData → Option Bool
  | .bool i => some i
  | _ => none
def decS : PyData → Option Str
  | .str i => some i
  | _ => none
def decEn {α : Type} (e : α → Str) (tb : List α) : PyData → Option α
  | .str y => tb.find? fun a => decide (e a = y)
  | _ => none
def dec2 {α β : Type} (f0 : PyData → Option α) (f1 : PyData → Option β) : PyData → Option (α × β)
  | .tuple [a, b] => (f0 a).bind fun x => (f1 b).bind fun y => some (x, y)
  | _ => none
def dec3 {α β γ : Type} (f0 : PyData → Option α) (f1 : PyData → Option β) (f2 : PyData → Option γ) : PyData → Option (α × β × γ)
  | .tuple [a, b, c] => (f0 a).bind fun x => (f1 b).bind fun y => (f2 c).bind fun z => some (x, y, z)
  | _ => none
end Mr

set_option linter.all false
/-! ToaP: a text, or any other thing. -/
namespace Mr
open PySem PySem.Spec
abbrev TxO := Wrd ⊕ PyData
def toW : TxO → Option Wrd
  | .inl w => some w
  | .inr _ => none
def toA : TxO → PyData
  | .inl w => .str (e_T w)
  | .inr d => d
def isTx : TxO → Bool
  | .inl _ => true
  | .inr _ => false
end Mr

set_option Elab.async false
set_option linter.all false
set_option maxRecDepth 100000
set_option maxHeartbeats 2000000
/-! FmtD: {x} of any data in an f-string. -/
namespace L2
open PySem PySem.Spec PyProof.Rows
def FmtOk (d : PyData) : Prop := rok d = true ∧ rcost d + 10 ≤ 1000000 ∧ d.depth ≤ 50 ∧ ∀ y, d = .str y → y.length ≤ 1000000
def tFmtD (K : PySem.W.Frag) (te : TE) : TE := fun σ H Q => te σ H fun x H1 => ∃ d, Dp K H1 x d ∧ FmtOk d ∧ ∀ m : Str, m.length ≤ 1000000 → Q (.str m) H1
theorem pe_fmtD {X : Cx} {e : Expr} {te : TE} {pos : Pos} {k : Nat} (hr : Room k X.A) (he : PE X e te) : PE X (.FormattedValue e (-1) none pos) (tFmtD X.K te) := by
  refine ⟨fun pins s σ H Q I h => ?_⟩
  refine wpAny_FormattedValue_plain (thn (he.run pins s σ H _ I h) fun v s1 hv => ?_)
  obtain ⟨x, H1, I1, r1, d, hd, ⟨h1, h2, h3, h4⟩, q⟩ := hv
  obtain ⟨as, rd⟩ := Dp.reads I1 d x v hd r1
  have hu := hr.units
  have hz : (1000000 : Nat) ≤ sizeLine := by decide
  refine formatField_some rd h1 (by omega) (by omega) (fun y hy => Nat.le_trans (h4 y hy) hz) fun m h' u tk hm hk => ?_
  have hm' : m.length ≤ 1000000 := by
    rcases hm with z | z
    · omega
    · exact h4 m z
  refine ⟨.str m, H1, ?_, ⟨u, rfl⟩, q m hm'⟩
  exact I1.call' (ch := []) rfl (Un.kept hk) (I1.hok.kept hk) I1.bare fun b z => by simp at z
end L2

set_option Elab.async false
set_option linter.all false
set_option maxRecDepth 100000
set_option maxHeartbeats 2000000
/-! ExcP: C.__init__(self, ..) of an own exception class C without an own __init__. -/
namespace L2
open PySem PySem.Spec PyProof.Rows
/-- C's __init__ is ValueError's -/
structure InitC (K : PySem.W.Frag) (C : Addr) : Prop where
  ga : PySem.W.specialIn K (.ref C) "__getattribute__" = some (some (.builtin "type.__getattribute__"))
  ty : PySem.W.typeIn K (.ref C) = some (.type "type")
  rd : PySem.W.readsIn K C (.type "type") = true
  vi : PySem.W.findCls K (.ref C) (.type "type") "__init__" = some (.val (.builtin "ValueError.__init__"))
section
variable {X : Cx} {e : Expr} {es : List Expr} {ta : TA} {x : Str} {C0 : Addr} {p1 p2 pos : Pos}
theorem pe_oinit {pl : Sem Bool} (hg : Gl X x) (hm : X.mg x = some (.ref C0)) (T0 : InitC X.K C0) (ha : PA X (e :: es) ta)
    (hd : (x == ("__debug__" : Str)) = false := by decide)
    (hc : eval (.Call (.Attribute (.Name x p1) "__init__" p2) (e :: es) [] pos) X.env = (do
      let ov ← eval (.Name x p1) X.env
      standAt p2.atName
      let (f, first) ← holding [ov] (getMethod ov "__init__" pl)
      callWith pos f first (backTo pos (starEach (e :: es) X.env)) (backToKw pos (keywordEach [] X.env))) := by rfl)
    (he : starEach (e :: es) X.env = (false, eval e X.env) :: starEach es X.env := by rfl) (hpl : (backTo pos (starEach es X.env)).any (·.1) = false := by rfl) :
    PE X (.Call (.Attribute (.Name x p1) "__init__" p2) (e :: es) [] pos) (tVeI X.K ta) := by
  refine ⟨fun pins s σ H Q I h => ?_⟩
  refine PySem.W.methodCall_KW (ld_glob I hg hm ?_ hd) hc
  obtain ⟨m, fr⟩ := I.fr
  refine PySem.W.method_of_cls fr I.ok.mod.kin T0.ga ?_
  refine PySem.W.cls_val fr I.ok.mod.kin T0.ty T0.rd T0.vi (by decide +kernel) ?_
  show wpAny _ _ (callWith pos (Value.builtin "ValueError.__init__") [] (backTo pos (starEach (e :: es) X.env)) []) _ _ _
  refine PyProof.Rows.callWith_method1 (thn (ha.run pos pins _ σ H _ (I.tok _) h) fun us s1 ⟨vs, H1, I1, r1, a, C, ws, ev, hl, T, ea, q⟩ => ?_) he hpl
  subst ev
  cases r1 with
  | @cons _ u0 _ ur ra rw' =>
    obtain rfl : u0 = Value.ref a := ra
    have hlen : ur.length ≤ sizeLine := by
      rw [← Paired.length rw', sizeLine_eq]
      omega
    exact oinit_ok T I1 ea hlen fun s' J => ⟨.non, H1, J, rfl, q⟩
end
end L2

set_option Elab.async false
set_option linter.all false
set_option maxRecDepth 100000
set_option maxHeartbeats 4000000
/-! ExcQ: isinstance of a caught exception of an own class that holds fields. -/
namespace PySem.W
open PySem PySem.Spec PySem.Calls PyProof.Rows
section
variable {prog : Program} {w : World} {A : Around} {E : Value → Shared → Prop} {s : Shared} {K : Frag} {x D : Addr} {ox : Obj} {od : Obj}
theorem kin_classF {Q : Option Value → Shared → Prop} (C : L2.ExcC K D) (X : K.In s.heap) (I : InstAt s.heap x ox D (some od)) (h : Q (some (.ref D)) { s with toks := s.toks + 1 }) : wpAny (model prog w) A (getAttr? (.ref x) "__class__") Q E s := by
  have hf : findObj K D (some od) "__class__" = some (.bind (.builtin "getset_descriptor.__get__") (.builtin "object.__class__")) := findObj_data (by obtain ⟨cd, hc, _⟩ := any_some C.hd; rw [hc]; rfl) C.ha C.hn C.ht
  obtain ⟨hp, g, d, t, os⟩ := s
  have ty := I.type (M := model prog w)
  have sub : Looks (model prog w) hp (isInstance (.ref x) (.type "BaseException")) true := ty.andThen (looks_subIn X C.hs)
  have no : (Value.builtin "BaseException.__getattribute__" == Value.builtin "object.__getattribute__") = false := by decide +kernel
  unfold getAttr? getAttrBy? getAttrBy
  refine wpAny_bind (wpAny_mkText (wpAny_bind (wpAny_attempt (wpAny_holding (wpAny_bind (ty.at (wpAny_bind ((looks_findIn (M := model prog w) X C.hg).at ?_))))))))
  show wpAny _ _ (if (onTheHeap (Value.ref D) && Value.builtin "BaseException.__getattribute__" == Value.builtin "object.__getattribute__") = true then _ else _) _ _ _
  rw [no, Bool.and_false, if_neg Bool.false_ne_true]
  unfold getAttrByItsOwn hookBefore
  refine wpAny_bind ?_
  rw [if_pos (show onTheHeap (Value.ref D) = true from rfl)]
  refine (looks_findIn (M := model prog w) X C.hk).at (wpAny_bind (wpAny_attempt (wpAny_holding ?_)))
  unfold callGetattribute
  rw [show (false && onTheHeap (Value.builtin "BaseException.__getattribute__")) = false from rfl, if_neg Bool.false_ne_true]
  unfold boundAndCalled
  rw [PySem.F.excAttr_ValueError.ga.bind (.ref x)]
  refine wpAny_bind (wpAny_pure ?_)
  show wpAny _ _ (call (.builtin "BaseException.__getattribute__") [.ref x, .str "__class__" t]) _ _ _
  refine wpAny_call (codeAny_call_builtin PySem.F.excAttr_ValueError.ga.plain PySem.F.entry_bexc_ga ?_)
  refine @check_slot (model prog w) _ _ ⟨hp, g, d, t + 1, os⟩ "BaseException.__getattribute__" "BaseException" "__getattribute__" (.ref x) [.str "__class__" t] [] _ (by decide +kernel) (by decide +kernel) sub (PySem.F.args_bexc_ga (.ref x) (.str "__class__" t)) ?_
  unfold Builtin.«object.__getattribute__»
  refine wpAny_bind (wpAny_of_eq (a := ((Value.ref x : Value), [Value.str "__class__" t])) (by first | rfl | (simp only [slotArgs]; rfl)) ?_)
  refine wpAny_bind (wpAny_pure (wpAny_bind (ty.at (wpAny_bind ((looks_find (M := model prog w) X I hf).at ?_)))))
  show wpAny _ _ (holding [Value.builtin "object.__class__"] (call (.builtin "getset_descriptor.__get__") [.builtin "object.__class__", .ref x, .ref D]) >>= ret) _ _ _
  refine wpAny_bind (wpAny_holding (wpAny_call (class_get (s := ⟨hp, g, d, t + 1, os⟩) (ox := ox) (od := some od) X I C.hm ?_)))
  refine wpAny_pure ?_
  show wpAny _ _ (handedOut (.ref D)) _ _ _
  rw [handedOut_of (v := .ref D) rfl]
  first
    | exact wpAny_pure (wpAny_pure h)
    | exact wpAny_pure h
    | exact wpAny_pure (wpAny_bind (wpAny_pure (wpAny_pure h)))
theorem kitx_excF (C : L2.ExcC K D) : KitX K (.ref x) (.ref D) (fun h => InstAt h x ox D (some od)) :=
  let Z := handS_kitx_exc (x := x) (ox := ox) C.hg C.hk C.hs C.hd C.ha C.hn C.ht C.hm
  { ty := fun _ _ _ I => I.type
    it := fun _ _ X _ => by
      obtain ⟨cdD, hcD, _⟩ := any_some C.hd
      unfold clsIn at hcD
      split at hcD
      · rename_i c' d' cd' sl' ho
        intro A' Q' E' s' k q
        unfold isType loadHead
        exact wpAny_bind (wpAny_loadPart (k _ _ (X _ _ ho)) (wpAny_pure q))
      · cases hcD
    ne := Z.ne
    ca := fun X I k => kin_classF C X I k }
end
end PySem.W
namespace L2
open PySem PySem.Spec PyProof.Rows
/-- isinstance(e, c), e the exception that the suite holds, with fields -/
def rIsF (K : PySem.W.Frag) (D a : Addr) (d : Option Addr) : List V → Hp → VK → Prop := fun xs H Q => ∃ (c : V) (cv : Value) (b : Bool) (dd : Addr) (fs : List (Str × V)), d = some dd ∧ H dd = some (.xd fs) ∧ xs = [.ref a, c] ∧ (∀ u, RelV c u → u = cv) ∧ PySem.W.kitOne K (.ref D) cv = some b ∧ Q (.bl b) H
theorem call_isF {X : Cx} {a D : Addr} {oe : Obj} {d : Option Addr} {pn : List (Addr × Obj)} (C : ExcC X.K D) (hz : Zc (.ref D) d oe) (hf : ∃ vs, oe.data = .fields vs) : CallR (X.suite a ((a, oe) :: pn)) (.builtin "isinstance") (rIsF X.K D a d) := by
  intro pins s σ H xs us Q I r h
  obtain ⟨c, cv, b, dd, fs, rfl, ea, rfl, hcv, e, q⟩ := h
  cases r with
  | cons rx rr =>
    cases rr with
    | cons rt rr =>
      cases rr
      cases rx
      have ec := hcv _ rt
      subst ec
      obtain ⟨hget, _⟩ := I.pin (a, oe) (List.mem_append.mpr (.inl List.mem_cons_self))
      obtain ⟨vs, hv⟩ := hf
      have hx : ObjOk X.prog X.w H s.heap dd (.xd fs) := I.hok dd _ ea
      obtain ⟨mA, hns, hr⟩ := hx
      obtain ⟨od, ho, hl⟩ := lookIn_ns hns
      have J : PySem.W.InstAt s.heap a oe D (some od) := ⟨hget, hz.1, by unfold PySem.W.notCls; rw [hv] <;> rfl, by rw [hz.2]; exact ho⟩
      exact PySem.W.kia_one (PySem.W.kitx_excF C) I.kIn J e (fun z => nomatch z) fun tk => ⟨.bl b, H, I.kept (t' := tk) fun _ _ z => z, rfl, q⟩
end L2

set_option Elab.async false
set_option linter.all false
set_option maxRecDepth 100000
set_option maxHeartbeats 2000000
/-! MirX: data of any kind and exceptions of own classes, in worlds. -/
namespace Mr
open PySem PySem.Spec PyProof.Rows L2
/-! ### any data -/
section
variable {K : PySem.W.Frag} {G G' : Hp}
mutual
theorem dp_up (e : Ext G G') : ∀ (d : PyData) {v : V}, Dp K G v d → Dp K G' v d
  | .none, _, h => by cases h; exact .non
  | .bool b, _, h => by cases h; exact .bl b
  | .int i, _, h => by cases h; exact .int i
  | .str y, _, h => by cases h; exact .str y
  | .list ds, _, h => by
    cases h with
    | lst hs ha => exact .lst (sqL_up e hs) (dps_up e ds ha)
  | .tuple ds, _, h => by
    cases h with
    | tup hs ha => exact .tup (sqT_up e hs) (dps_up e ds ha)
  | .dict _, _, h => by cases h
theorem dps_up (e : Ext G G') : ∀ (ds : List PyData) {vs : List V}, DpAll K G vs ds → DpAll K G' vs ds
  | [], _, h => by cases h; exact .nil
  | d :: ds, _, h => by
    cases h with
    | cons h1 h2 => exact .cons (dp_up e d h1) (dps_up e ds h2)
end
end
def rAny (K : PySem.W.Frag) : R PyData := ⟨fun G v d => Dp K G v d, fun e h => dp_up e _ h⟩
section
variable {K : PySem.W.Frag} {G G' H : Hp} {O : Own} {v w : V} {vs : List V} {d e : PyData} {ds : List PyData} {Q : VK}
theorem al_dps : ∀ {vs : List V} {ds : List PyData}, Al (rAny K) G vs ds → DpAll K G vs ds
  | [], [], _ => .nil
  | _ :: _, _ :: _, h => .cons h.1 (al_dps h.2)
  | [], _ :: _, h => h.elim
  | _ :: _, [], h => h.elim
theorem dps_al : ∀ {vs : List V} {ds : List PyData}, DpAll K G vs ds → Al (rAny K) G vs ds
  | _, [], h => by cases h; exact True.intro
  | _, _ :: _, h => by
    cases h with
    | cons h1 h2 => exact ⟨h1, dps_al h2⟩
theorem any_T (h : (rT K (rAny K)).rel G v ds) : (rAny K).rel G v (.tuple ds) := by
  obtain ⟨p, vs, rfl, hs, ha⟩ := h
  exact .tup hs (al_dps ha)
theorem any_M (h : (rM (rAny K)).rel G v ds) : (rAny K).rel G v (.list ds) := by
  obtain ⟨p, vs, rfl, hs, ha⟩ := h
  exact .lst (.inl (.inl hs)) (al_dps ha)
theorem any_of {α : Type} [DecidableEq α] (d : RD K α) {x : α} (h : d.r.rel G v x) : (rAny K).rel G v (d.enc x) := d.dp h
theorem dp_get : ∀ {vs : List V} {ds : List PyData} {i : Nat} {d : PyData}, DpAll K G vs ds → ds[i]? = some d → ∃ v, vs[i]? = some v ∧ Dp K G v d
  | _, _, i, d, h, e => (dps_al h).get (r := rAny K) e
/-! what a kind of data is -/
theorem ty_A {c : String} (h : Dp K H v d) (hk : kindA d = some c) : TyX K H v (.type c) := by
  cases h with
  | non => cases hk; exact ty_N
  | bl b => cases hk; exact ty_B _
  | int i => cases hk; exact ty_I _
  | str x => cases hk; exact ty_S _
  | lst hs ha => cases hk; exact ty_L (K := K) (r := rAny K) ⟨_, _, rfl, hs, dps_al ha⟩
  | tup hs ha => cases hk; exact ty_sqT hs
theorem isA_kind {c : String} {b : Bool} (hc : c = "tuple" ∨ c = "list" ∨ c = "str" ∨ c = "bool" ∨ c = "int") (h : isA c d = some b) : ∃ k, kindA d = some k ∧ kitB k c = some b := by
  rcases hc with rfl | rfl | rfl | rfl | rfl <;> cases d <;> cases h <;> exact ⟨_, rfl, by decide +kernel⟩
theorem q_isiA {c : String} {b : Bool} (hc : c = "tuple" ∨ c = "list" ∨ c = "str" ∨ c = "bool" ∨ c = "int") (S : Sub G O H) (h : (rAny K).rel G v d) (e : isA c d = some b) (q : Q (.bl b) H) : rIsi K [v, .ty c] H Q := by
  obtain ⟨k, h1, h2⟩ := isA_kind hc e
  exact q_isi (ty_A (dp_up S.ext _ h) h1) h2 q
theorem q_lenA {n : Int} (S : Sub G O H) (h : (rAny K).rel G v d) (e : lenA d = some n) (q : Q (.int n) H) : rLenM K [v] H Q := by
  have h' : Dp K H v d := dp_up S.ext _ h
  cases h' with
  | tup hs ha =>
    cases e
    have := (dps_al ha).len
    refine ⟨_, _, rfl, .inr hs, ?_⟩
    rw [this]; exact q
  | lst hs ha =>
    cases e
    have := (dps_al ha).len
    refine ⟨_, _, rfl, .inl hs, ?_⟩
    rw [this]; exact q
  | _ => cases e
theorem q_ixA {i : Int} (S : Sub G O H) (h : (rAny K).rel G v d) (e' : ixA d i = some e) (q : ∀ w, (rAny K).rel G w e → Q w H) : rIxT K v (.int i) H Q := by
  have h' : Dp K G v d := h
  cases h' with
  | tup hs ha => exact q_ixT (r := rAny K) S ⟨_, _, rfl, hs, dps_al ha⟩ e' q
  | _ => cases e'
theorem shA_ok (h : shA d = some e) : SeqAt.shaped d = true ∧ d = e := shA_some h
theorem q_eqA {b : Bool} (S : Sub G O H) (h1 : (rAny K).rel H v d) (h2 : (rAny K).rel H w e) (e' : eqA d e = some b) (q : Q (.bl b) H) : rEqD K v w H Q := by
  obtain ⟨d', a1, e'⟩ := bindS e'
  obtain ⟨e2, a2, e'⟩ := bindS e'
  obtain ⟨s1, rfl⟩ := shA_ok a1
  obtain ⟨s2, rfl⟩ := shA_ok a2
  cases e'
  exact ⟨_, _, h1, h2, s1, s2, q⟩
theorem q_neA {b : Bool} (S : Sub G O H) (h1 : (rAny K).rel H v d) (h2 : (rAny K).rel H w e) (e' : eqA d e = some b) (q : Q (.bl (!b)) H) : rNeD K v w H Q := by
  obtain ⟨d', a1, e'⟩ := bindS e'
  obtain ⟨e2, a2, e'⟩ := bindS e'
  obtain ⟨s1, rfl⟩ := shA_ok a1
  obtain ⟨s2, rfl⟩ := shA_ok a2
  cases e'
  exact ⟨_, _, h1, h2, s1, s2, q⟩
theorem q_inA {b : Bool} (S : Sub G O H) (h1 : (rAny K).rel H v d) (h2 : (rAny K).rel H w (.list ds)) (e' : inA d ds = some b) (q : Q (.bl b) H) : rInD K v w H Q := by
  obtain ⟨d', a1, e'⟩ := bindS e'
  obtain ⟨e2, a2, e'⟩ := bindS e'
  obtain ⟨s1, rfl⟩ := shA_ok a1
  obtain ⟨s2, rfl⟩ := shA_ok a2
  cases e'
  exact ⟨_, _, h1, h2, s1, s2, q⟩
theorem q_niA {b : Bool} (S : Sub G O H) (h1 : (rAny K).rel H v d) (h2 : (rAny K).rel H w (.list ds)) (e' : inA d ds = some b) (q : Q (.bl (!b)) H) : rNotInD K v w H Q := by
  obtain ⟨d', a1, e'⟩ := bindS e'
  obtain ⟨e2, a2, e'⟩ := bindS e'
  obtain ⟨s1, rfl⟩ := shA_ok a1
  obtain ⟨s2, rfl⟩ := shA_ok a2
  cases e'
  exact ⟨_, _, h1, h2, s1, s2, q⟩
/-- a tuple display of written length -/
theorem q_tupN {α : Type} {r : R α} {xs : List α} (S : Sub G O H) (hl : vs.length ≤ 100000) (h : Al r G vs xs) (q : ∀ u G' H', Ext G G' → Sub G' O H' → (rT K r).rel G' u xs → Q u H') : mkTup vs H Q :=
  ⟨sz hl, fun p hp => q _ _ _ (S.extNew hp _) (S.new hp) ⟨p, vs, rfl, .inl (.inl upd_same), h.up (S.extNew hp _)⟩⟩
end
/-! ### back from any data to a type -/
section
variable {K : PySem.W.Frag} {α β γ δ : Type} {r0 : R α} {r1 : R β} {r2 : R γ} {r3 : R δ} {G : Hp} {v : V} {d : PyData}
def Dec (K : PySem.W.Frag) (r : R α) (f : PyData → Option α) : Prop := ∀ (G : Hp) (v : V) (d : PyData) (x : α), f d = some x → Dp K G v d → r.rel G v x
theorem dec_I : Dec K rInt decI := fun G v d x e h => by
  cases h <;> cases e
  rfl
theorem dec_B : Dec K rBool decB := fun G v d x e h => by
  cases h <;> cases e
  rfl
theorem dec_S : Dec K rStr decS := fun G v d x e h => by
  cases h <;> cases e
  rfl
theorem dec_En {e : α → Str} {tb : List α} : Dec K (rEn e) (decEn e tb) := fun G v d x h hd => by
  cases hd with
  | str y =>
    have h' : tb.find? (fun a => decide (e a = y)) = some x := h
    have := List.find?_some h'
    show V.str y = V.str (e x)
    rw [of_decide_eq_true this]
  | _ => cases h
theorem dps_2 {d0 d1 : PyData} {vs : List V} (h : DpAll K G vs [d0, d1]) : ∃ v0 v1, vs = [v0, v1] ∧ Dp K G v0 d0 ∧ Dp K G v1 d1 := by
  have h := dps_al h
  match vs, h with
  | [v0, v1], h => exact ⟨v0, v1, rfl, h.1, h.2.1⟩
theorem dps_3 {d0 d1 d2 : PyData} {vs : List V} (h : DpAll K G vs [d0, d1, d2]) : ∃ v0 v1 v2, vs = [v0, v1, v2] ∧ Dp K G v0 d0 ∧ Dp K G v1 d1 ∧ Dp K G v2 d2 := by
  have h := dps_al h
  match vs, h with
  | [v0, v1, v2], h => exact ⟨v0, v1, v2, rfl, h.1, h.2.1, h.2.2.1⟩
theorem dp_tup {ds : List PyData} (h : Dp K G v (.tuple ds)) : ∃ a vs, v = .ref a ∧ SqT K G a vs ∧ DpAll K G vs ds := by
  cases h with
  | tup hs ha => exact ⟨_, _, rfl, hs, ha⟩
theorem dec2_some {f0 : PyData → Option α} {f1 : PyData → Option β} {x : α × β} (e : dec2 f0 f1 d = some x) : ∃ a b, d = .tuple [a, b] ∧ f0 a = some x.1 ∧ f1 b = some x.2 := by
  unfold dec2 at e
  split at e
  · obtain ⟨x0, e0, e⟩ := bindS e
    obtain ⟨x1, e1, e⟩ := bindS e
    cases e
    exact ⟨_, _, rfl, e0, e1⟩
  · cases e
theorem dec3_some {f0 : PyData → Option α} {f1 : PyData → Option β} {f2 : PyData → Option γ} {x : α × β × γ} (e : dec3 f0 f1 f2 d = some x) : ∃ a b c, d = .tuple [a, b, c] ∧ f0 a = some x.1 ∧ f1 b = some x.2.1 ∧ f2 c = some x.2.2 := by
  unfold dec3 at e
  split at e
  · obtain ⟨x0, e0, e⟩ := bindS e
    obtain ⟨x1, e1, e⟩ := bindS e
    obtain ⟨x2, e2, e⟩ := bindS e
    cases e
    exact ⟨_, _, _, rfl, e0, e1, e2⟩
  · cases e
theorem dec_2 {f0 : PyData → Option α} {f1 : PyData → Option β} (h0 : Dec K r0 f0) (h1 : Dec K r1 f1) : Dec K (rP2 K r0 r1) (dec2 f0 f1) := fun G v d x e h => by
  obtain ⟨a, b, rfl, e0, e1⟩ := dec2_some e
  obtain ⟨p, vs, rfl, hs, ha⟩ := dp_tup h
  obtain ⟨v0, v1, rfl, a0, a1⟩ := dps_2 ha
  exact ⟨p, _, _, rfl, hs, h0 _ _ _ _ e0 a0, h1 _ _ _ _ e1 a1⟩
theorem dec_3 {f0 : PyData → Option α} {f1 : PyData → Option β} {f2 : PyData → Option γ} (h0 : Dec K r0 f0) (h1 : Dec K r1 f1) (h2 : Dec K r2 f2) : Dec K (rP3 K r0 r1 r2) (dec3 f0 f1 f2) := fun G v d x e h => by
  obtain ⟨a, b, c, rfl, e0, e1, e2⟩ := dec3_some e
  obtain ⟨p, vs, rfl, hs, ha⟩ := dp_tup h
  obtain ⟨v0, v1, v2, rfl, a0, a1, a2⟩ := dps_3 ha
  exact ⟨p, _, _, _, rfl, hs, h0 _ _ _ _ e0 a0, h1 _ _ _ _ e1 a1, h2 _ _ _ _ e2 a2⟩
end
/-! ### exceptions of own classes with an __init__ that keeps one or two values -/
def oexB1 (K : PySem.W.Frag) (C : Addr) : Bool := match K.lookup C with
  | some ⟨.type "type", _, .cls cdat, slts⟩ => (match cdat.mro, slts.toList with
    | .ref C2 :: rest, [_, _, _, _, some (.builtin nw), _] => C2 == C && (nw == "ValueError.__new__" && (!cdat.hasDel && (cdat.hasDict && PySem.HandSPX.refsVE rest)))
    | _, _ => false)
  | _ => false
theorem oexB1_ok {K : PySem.W.Frag} {C : Addr} (h : oexB1 K C = true) : ∃ nm q N bs bm sn sub ab col dd k0 k1 k2 k3 k5, K.lookup C = some (excClassObj nm q C N bs bm true sn sub ab col dd k0 k1 k2 k3 k5 "ValueError.__new__") ∧ PySem.HandSPX.refsVE bm = true := by
  unfold oexB1 at h
  split at h
  · rename_i dd cdat slts ho
    split at h
    · rename_i C2 rest k0 k1 k2 k3 nw k5 hm hs
      simp only [Bool.and_eq_true, beq_iff_eq, Bool.not_eq_true'] at h
      obtain ⟨rfl, rfl, hdel, hdc, hr⟩ := h
      obtain ⟨nm, bs, mro, ns, qn, hd, sn, sub, ab, col, del⟩ := cdat
      dsimp only at hm hdel hdc
      subst hm hdel hdc
      obtain ⟨sl⟩ := slts
      dsimp only at hs
      subst hs
      exact ⟨nm, qn, ns, bs, rest, sn, sub, ab, col, dd, k0, k1, k2, k3, k5, ho, hr⟩
    · cases h
  · cases h
/-- what is asked of the class x -/
structure XcT (K : PySem.W.Frag) (x : Str) : Prop where
  oex : OexC K (He.ga K x)
  xf : XfC K (He.ga K x)
  ex : ExcC K (He.ga K x)
  ini : PySem.W.findIn K (.ref (He.ga K x)) "__init__" = some (some (.ref (He.ma K (He.ga K x) "__init__")))
  tI : PySem.W.typeIn K (.ref (He.ma K (He.ga K x) "__init__")) = some (.type "function")
  isC : PySem.W.isClsIn K (He.ga K x) = true
def xcB (x : Str) : FrT := fun K =>
  oexB1 K (He.ga K x) && (He.eqO (PySem.W.findIn K (.ref (He.ga K x)) "__setattr__") (some (some (.builtin "object.__setattr__"))) && (decide (PySem.W.subIn K (.ref (He.ga K x)) (.type "BaseException") = some true) &&
  (decide (PySem.W.typeIn K (.ref (He.ga K x)) = some (.type "type")) && (PySem.W.keepIn K (.ref (He.ga K x)) && (xfB K (He.ga K x) &&
  (He.eqO (PySem.W.findIn K (.ref (He.ga K x)) "__class__") (some (some (.builtin "object.__class__"))) && (He.eqO (PySem.W.specialIn K (.builtin "object.__class__") "__get__") (some (some (.builtin "getset_descriptor.__get__"))) &&
  (decide (PySem.W.takesIn K (.builtin "object.__class__") = some true) && (decide (PySem.W.mroIn K (He.ga K x) (.type "object") = some true) && (He.eqO (PySem.W.findIn K (.ref (He.ga K x)) "__init__") (some (some (.ref (He.ma K (He.ga K x) "__init__")))) &&
  (decide (PySem.W.typeIn K (.ref (He.ma K (He.ga K x) "__init__")) = some (.type "function")) && PySem.W.isClsIn K (He.ga K x))))))))))))
theorem xcB_ok {x : Str} {K : PySem.W.Frag} (h : xcB x K = true) : XcT K x := by
  obtain ⟨h1, h⟩ := He.ba h
  obtain ⟨h2, h⟩ := He.ba h
  obtain ⟨h3, h⟩ := He.ba h
  obtain ⟨h4, h⟩ := He.ba h
  obtain ⟨h5, h⟩ := He.ba h
  obtain ⟨h6, h⟩ := He.ba h
  obtain ⟨h7, h⟩ := He.ba h
  obtain ⟨h8, h⟩ := He.ba h
  obtain ⟨h9, h⟩ := He.ba h
  obtain ⟨h10, h⟩ := He.ba h
  obtain ⟨h11, h⟩ := He.ba h
  obtain ⟨h12, h13⟩ := He.ba h
  have X := xfB_ok h6
  exact ⟨⟨oexB1_ok h1, He.eqO_ok h2, of_decide_eq_true h3, of_decide_eq_true h4, h5⟩, X, ⟨X.ga, X.gg, of_decide_eq_true h3, X.hdC, He.eqO_ok h7, He.eqO_ok h8, of_decide_eq_true h9, of_decide_eq_true h10⟩, He.eqO_ok h11, of_decide_eq_true h12, h13⟩
/-- the base class, whose __init__ is ValueError's -/
def ibB (x : Str) : FrT := fun K => He.eqO (PySem.W.specialIn K (.ref (He.ga K x)) "__getattribute__") (some (some (.builtin "type.__getattribute__"))) && (decide (PySem.W.typeIn K (.ref (He.ga K x)) = some (.type "type")) &&
  (PySem.W.readsIn K (He.ga K x) (.type "type") && (match PySem.W.findCls K (.ref (He.ga K x)) (.type "type") "__init__" with
  | some (.val (.builtin z)) => z == "ValueError.__init__"
  | _ => false)))
theorem ibB_ok {x : Str} {K : PySem.W.Frag} (h : ibB x K = true) : InitC K (He.ga K x) := by
  obtain ⟨h1, h⟩ := He.ba h
  obtain ⟨h2, h⟩ := He.ba h
  obtain ⟨h3, h4⟩ := He.ba h
  refine ⟨He.eqO_ok h1, of_decide_eq_true h2, h3, ?_⟩
  split at h4
  · rename_i z hz
    rw [hz, beq_iff_eq.mp h4]
  · cases h4
theorem fmtB_ok {d : PyData} (h : fmtB d = true) : FmtOk d := by
  unfold fmtB at h
  obtain ⟨h1, h⟩ := He.ba h
  obtain ⟨h2, h⟩ := He.ba h
  obtain ⟨h3, h4⟩ := He.ba h
  refine ⟨h1, of_decide_eq_true h2, of_decide_eq_true h3, fun y e => ?_⟩
  subst e
  exact of_decide_eq_true h4
/-- the __init__ with one value kept as f -/
def spX1 (K : PySem.W.Frag) (C : Addr) (f : Str) : Sp := fun vs H Q _ => ∃ (a : Addr) (v : V) (d : PyData), vs = [.ref a, v] ∧ H a = some (exo a C none) ∧ Dp K H v d ∧ FmtOk d ∧
  ∀ dx, H dx = none → dx ≠ a → Q .non (upd (upd H dx (exd dx [(f, v)])) a (exo a C (some dx)))
def mkO (C : Addr) (sp : Sp) (vs : List V) (H1 : Hp) (Q : XK) : Prop := vs.length ≤ 1000 ∧ ∀ a, H1 a = none → sp (.ref a :: (vs ++ [])) (upd H1 a (exo a C none))
  (fun v H2 => v = .non ∧ ∃ (d : Addr) (fs : List (Str × V)), H2 a = some (exo a C (some d)) ∧ H2 d = some (exd d fs) ∧ H1 d = none ∧ Q (.ref C) (some d) (upd (L2.del H2 a) d (.xd fs))) (fun _ _ _ => False)
theorem gRaise {C : Addr} {sp : Sp} {ta : TA} {σ : L2.St} {H : Hp} {W : XK} (h : ta σ H fun vs H1 => mkO C sp vs H1 W) : tMkO C sp [] ta σ H W := h
theorem heap_exc {H : Hp} {a dx : Addr} {o1 o2 o3 o4 : HO} (ha : H a = none) (hne : dx ≠ a) : upd (L2.del (upd (upd (upd H a o1) dx o2) a o3) a) dx o4 = upd H dx o4 := by
  funext b
  by_cases h1 : b = dx
  · subst h1; rw [upd_same, upd_same]
  · rw [upd_ne h1, upd_ne h1]
    by_cases h2 : b = a
    · subst h2; rw [del_same, ha]
    · rw [del_ne h2, upd_ne h2, upd_ne h1, upd_ne h2]
theorem q_mk1 {K : PySem.W.Frag} {G H : Hp} {O : Own} {C : Addr} {f : Str} {v : V} {d : PyData} {Q : XK} (S : Sub G O H) (h : (rAny K).rel G v d) (hf : fmtB d = true)
    (q : ∀ dd G' H', Ext G G' → Sub G' O H' → G' dd = some (.xd [(f, v)]) → Q (.ref C) (some dd) H') : mkO C (spX1 K C f) [v] H Q := by
  refine ⟨by simp, fun a ha => ⟨a, v, d, rfl, upd_same, dp_up (S.ext.trans (fun b o e => by rw [upd_ne (ne_of_none e ha)]; exact e)) _ h, fmtB_ok hf, fun dx hdx hne => ?_⟩⟩
  have hdx' : H dx = none := by rw [upd_ne hne] at hdx; exact hdx
  refine ⟨rfl, dx, [(f, v)], upd_same, by rw [upd_ne hne, upd_same], hdx', ?_⟩
  rw [heap_exc ha hne]
  exact q dx _ _ (S.extNew hdx' _) (S.new hdx') upd_same
theorem gJsC {t : TE} {ts : List TE} {acc : Str} {σ : L2.St} {H : Hp} {QS : Str → Hp → Prop} (h : t σ H fun x H1 => ∃ y : Str, x = .str y ∧ (acc ++ y).length ≤ sizeLine ∧ tJs ts (acc ++ y) σ H1 QS) : tJs (t :: ts) acc σ H QS := h
theorem gJsN {acc : Str} {σ : L2.St} {H : Hp} {QS : Str → Hp → Prop} (h : QS acc H) : tJs [] acc σ H QS := h
theorem gVeI {K : PySem.W.Frag} {ta : TA} {σ : L2.St} {H : Hp} {Q : VK} (h : ta σ H fun vs H1 => ∃ (a C : Addr) (ws : List V), vs = .ref a :: ws ∧ ws.length ≤ 1000 ∧ OexC K C ∧ H1 a = some (exo a C none) ∧ Q .non H1) : tVeI K ta σ H Q := h
theorem gFmtD {K : PySem.W.Frag} {te : TE} {σ : L2.St} {H : Hp} {Q : VK} (h : te σ H fun x H1 => ∃ d, Dp K H1 x d ∧ FmtOk d ∧ ∀ m : Str, m.length ≤ 1000000 → Q (.str m) H1) : tFmtD K te σ H Q := h
theorem gOst {K : PySem.W.Frag} {f : Str} {to te : TE} {D : Ends} {σ : L2.St} {H : Hp} (h : te σ H fun y H1 => to σ H1 fun x H2 => ∃ a C : Addr, x = .ref a ∧ OexC K C ∧ PySem.W.findIn K (.ref C) f = some none ∧
    ((H2 a = some (exo a C none) ∧ ∀ dx, H2 dx = none → dx ≠ a → D.nx σ (upd (upd H2 dx (exd dx [(f, y)])) a (exo a C (some dx)))) ∨
      ∃ (dx : Addr) (fs : List (Str × V)), H2 a = some (exo a C (some dx)) ∧ H2 dx = some (exd dx fs) ∧ fs.length ≤ 900 ∧ D.nx σ (upd H2 dx (exd dx ((f, y) :: fs))))) : tOst K f to te D σ H := h
/-- the texts of an f-string stay short -/
theorem js_len {a b : Str} {n m k : Nat} (h1 : a.length ≤ n) (h2 : b.length ≤ m) (h : n + m ≤ k) (hk : k ≤ 10000000) : (a ++ b).length ≤ k ∧ (a ++ b).length ≤ sizeLine := by
  have h3 : (10000000 : Nat) ≤ sizeLine := by decide
  rw [strLen_append]
  omega
/-- what is raised passes the def's own way out -/
theorem passE {P : Program} {w : World} {K : PySem.W.Frag} {mg : Str → Option Value} {base : Heap} {N : List Str} {qual : Str} {scope : Scope} {f : Addr} {cd : Value} {A : Around} {outer : List Env} {s : Shared} {H : Hp} {E : XK} :
    Passes (L2.CX P w) (cxOf (L2.CX P w) P w K mg base N qual scope f cd A outer s H E) E := passes_call (takes_of rfl rfl rfl rfl) fun _ _ _ _ h => h
end Mr

set_option Elab.async false
set_option linter.all false
set_option maxRecDepth 100000
set_option maxHeartbeats 2000000
/-! ToaG: a text, or any other thing, in worlds. -/
namespace Mr
open PySem PySem.Spec PyProof.Rows L2
def dTx {K : PySem.W.Frag} : RD K Wrd := ⟨rTx, fun w => .str (e_T w), 1, fun w => PyData.strOk (e_T w), fun _ h => h, fun _ => by simp [PyData.depth], fun {H v x} h => by cases (show v = .str (e_T x) from h); exact .str _, fun x y => by
  show (e_T x == e_T y) = decide (x = y)
  by_cases h : x = y
  · subst h; simp
  · rw [decide_eq_false h]
    exact beq_eq_false_iff_ne.mpr fun z => h (e_T_inj x y z)⟩
def rTO (K : PySem.W.Frag) : R TxO := ⟨fun G v x => match x with
  | .inl w => v = .str (e_T w)
  | .inr d => (rAny K).rel G v d ∧ isStr d = false, fun {G G' v x} e h => match x, h with
  | .inl _, h => h
  | .inr _, h => ⟨(rAny K).mono e h.1, h.2⟩⟩
section
variable {K : PySem.W.Frag} {G H : Hp} {O : Own} {v : V} {x : TxO} {w : Wrd} {d : PyData} {Q : VK}
theorem rTO_get (h : (rTO K).rel G v x) (e : toW x = some w) : v = .str (e_T w) := by
  cases x with
  | inl y => cases e; exact h
  | inr y => cases e
theorem rTO_inl : (rTO K).rel G (.str (e_T w)) (.inl w) := rfl
theorem rTO_inr (h : (rAny K).rel G v d) (n : isStr d = false) : (rTO K).rel G v (.inr d) := ⟨h, n⟩
theorem rTO_any (h : (rTO K).rel G v x) : (rAny K).rel G v (toA x) := by
  cases x with
  | inl y => cases (show v = _ from h); exact Dp.str _
  | inr y => exact h.1
theorem q_isiTO {b : Bool} (S : Sub G O H) (h : (rTO K).rel G v x) (hb : isTx x = b) (q : Q (.bl b) H) (hk : ∀ d, x = .inr d → ∃ k, kindA d = some k) : rIsi K [v, .ty "str"] H Q := by
  subst hb
  have h2 := rTO_any h
  cases x with
  | inl y => exact q_isiA (c := "str") (b := true) (by decide) S h2 rfl q
  | inr y =>
    obtain ⟨k, hk⟩ := hk y rfl
    refine q_isiA (c := "str") (b := false) (by decide) S h2 ?_ q
    obtain ⟨h3, h4⟩ := h
    show isA "str" y = some false
    cases y <;> first | (exact Bool.noConfusion (show true = false from h4)) | rfl | (cases hk; done)
theorem kind_any (h : (rAny K).rel G v d) : ∃ k, kindA d = some k := by
  have h' : Dp K G v d := h
  cases h' <;> exact ⟨_, rfl⟩
theorem al_inl : ∀ {vs : List V} {xs : List Wrd}, Al rTx G vs xs → Al (rTO K) G vs (xs.map Sum.inl)
  | [], [], _ => True.intro
  | _ :: _, _ :: _, h => ⟨h.1, al_inl h.2⟩
  | [], _ :: _, h => h.elim
  | _ :: _, [], h => h.elim
theorem rM_inl {xs : List Wrd} (h : (rM rTx).rel G v xs) : (rM (rTO K)).rel G v (xs.map Sum.inl) := let ⟨p, vs, e, h1, h2⟩ := h; ⟨p, vs, e, h1, al_inl h2⟩
theorem q_isTx (S : Sub G O H) (h : (rTO K).rel G v x) (q : Q (.bl (isTx x)) H) : rIsi K [v, .ty "str"] H Q :=
  q_isiTO S h rfl q fun d e => by subst e; exact kind_any h.1
end
end Mr

set_option Elab.async false
set_option linter.all false
set_option maxRecDepth 100000
set_option maxHeartbeats 2000000
/-! FmtR: {x!r} of any data in an f-string. -/
namespace PySem
open PySem.Spec PyProof.Rows
/-- repr of any data: some text -/
theorem reprObj_some {prog : Program} {w : World} {A : Around} {E : Value → Shared → Prop} {s : Shared} {Q : Value → Shared → Prop} {v : Value} {d : PyData} {as : List Addr} (r : Reads s.heap v d as) (hs : rok d = true) (hz : rcost d + 10 ≤ sizeLine) (hu : A.units + (d.depth + 2) < cLine)
    (hQ : ∀ (m : Str) h' u tk, m.length ≤ rcost d + 10 → KpH s.heap h' → Q (.str m u) { s with heap := h', toks := tk }) : wpAny (model prog w) A (pyReprObj v) Q E s := by
  cases r with
  | none => exact pyReprObj_none (hQ "None" s.heap _ _ (Nat.le_trans (show ("None" : Str).length ≤ 5 by decide +kernel) (by omega)) fun _ _ e => e)
  | bool b =>
    refine pyReprObj_bool (hQ _ s.heap _ _ ?_ fun _ _ e => e)
    have h5 : (Str.ofString (if b then "True" else "False")).length ≤ 5 := by cases b <;> decide +kernel
    have h6 : ∀ z : Str, z.length ≤ 5 → z.length ≤ rcost (.bool b) + 10 := fun z hz => by omega
    refine h6 _ ?_
    cases b <;> decide +kernel
  | int i t =>
    simp only [rok, decide_eq_true_eq] at hs
    exact pyReprObj_int hs (hQ _ s.heap _ _ (by simp only [rcost]; omega) fun _ _ e => e)
  | str y t =>
    simp only [rok, decide_eq_true_eq] at hs
    exact pyReprObj_str (hQ _ s.heap _ _ (by simp only [rcost]; omega) fun _ _ e => e) hs
  | tuple h1 h2 h3 h4 =>
    simp only [rok] at hs
    have h5 := ReprAllS.of_reads (prog := prog) (w := w) h4 hs
    simp only [rcost, PyData.depth] at hz hu hQ
    rw [← rcostAll_sum] at hz hQ
    exact wpAny_pyReprObj_slot (by omega) ⟨_, h1, h2⟩ F.slot_tuple_repr
      (call_tuple_reprS h1 h2 h3 h5 (by omega) (fun _ _ e => e) (fun m h' u tk hm hk => ⟨_, _, rfl, hQ m h' u tk (by omega) hk⟩) (by omega))
  | list h1 h2 h3 h4 =>
    rename_i o vs n xs bs
    simp only [rok] at hs
    have h5 := ReprAllS.of_reads (prog := prog) (w := w) h4 hs
    simp only [rcost, PyData.depth] at hz hu hQ
    rw [← rcostAll_sum] at hz hQ
    obtain ⟨l⟩ := vs
    cases l with
    | nil =>
      exact wpAny_pyReprObj_slot (by omega) ⟨_, h1, h2⟩ F.slot_list_repr.toG
        (call_list_repr_empty ⟨o, h1, h2⟩ h1 h3 ⟨_, _, rfl, hQ "[]" s.heap _ _ (Nat.le_trans (show ("[]" : Str).length ≤ 2 by decide +kernel) (by omega)) fun _ _ e => e⟩)
    | cons x l =>
      have hl2 : 2 * (x :: l).length ≤ sumS (List.map rcost xs) := h5.len2
      exact wpAny_pyReprObj_slot (by omega) ⟨_, h1, h2⟩ F.slot_list_repr.toG
        (call_list_reprS h1 h2 h3 h5 (by omega) (fun _ _ e => e) (by omega) (fun m h' u tk hm hk => ⟨_, _, rfl, hQ m h' u tk (by omega) hk⟩) (by omega))
  | dict h1 h2 h3 h4 h5 => simp [rok] at hs
end PySem
namespace L2
open PySem PySem.Spec PyProof.Rows
theorem pe_fmtRD {X : Cx} {e : Expr} {te : TE} {pos : Pos} {k : Nat} (hr : Room k X.A) (he : PE X e te) : PE X (.FormattedValue e 114 none pos) (tFmtD X.K te) := by
  refine ⟨fun pins s σ H Q I h => ?_⟩
  refine wpAny_FormattedValue_repr (thn (he.run pins s σ H _ I h) fun v s1 hv => ?_)
  obtain ⟨x, H1, I1, r1, d, hd, ⟨h1, h2, h3, h4⟩, q⟩ := hv
  obtain ⟨as, rd⟩ := Dp.reads I1 d x v hd r1
  have hu := hr.units
  have hz : (1000000 : Nat) ≤ sizeLine := by decide
  refine reprObj_some rd h1 (by omega) (by omega) fun m h' u tk hm hk => ?_
  have hm' : m.length ≤ 1000000 := by omega
  have I2 : Inv X pins σ H1 { s1 with heap := h', toks := tk } := I1.call' (ch := []) rfl (Un.kept hk) (I1.hok.kept hk) I1.bare fun b z => by simp at z
  refine wpAny_formatField_str ?_ ?_ (Nat.le_trans hm' hz)
  · exact ⟨.str m, H1, I2.tok _, ⟨_, rfl⟩, q m hm'⟩
  · exact ⟨.str m, H1, I2.tok _, ⟨_, rfl⟩, q m hm'⟩
end L2

set_option Elab.async false
set_option linter.all false
set_option maxRecDepth 100000
set_option maxHeartbeats 2000000
/-! InkC: inks put together; texts repeated; lists of the signs of a text. -/
namespace Mr
open PySem PySem.Spec PyProof.Rows L2
section
variable {X : Cx} {σ : L2.St} {G H : Hp} {O : Own} {Q : VK} {K : PySem.W.Frag}
theorem q_catI {a b z : Ink} (e : catI a b = some z) (q : Q (.str (e_Ink z)) H) : rAddT (.str (e_Ink a)) (.str (e_Ink b)) H Q := by
  obtain ⟨c, rfl⟩ := ifS e
  refine ⟨_, _, rfl, rfl, by rw [e_Ink_len, e_Ink_len]; exact sz c, ?_⟩
  have : e_Ink a ++ e_Ink b = e_Ink (a ++ b) := by
    show (⟨_⟩ : Str) = ⟨_⟩
    congr 1
    simp [e_Ink]
  rw [this]; exact q
/-! text * number -/
def rMulT : R2 := fun x y H Q => ∃ (a : Wrd) (k : Int), x = .str (e_T a) ∧ y = .int k ∧ 2 ≤ k ∧ k ≤ 1000 ∧ a ≠ [] ∧ a.length ≤ 1000 ∧ Q (.str (e_T (List.replicate k.toNat a).flatten)) H
theorem fold_app (x : Array Nat) : ∀ (l : List (Array Nat)) (b : Array Nat), (l.foldl (· ++ ·) b).toList = b.toList ++ (l.map Array.toList).flatten
  | [], b => by simp
  | y :: l, b => by rw [List.foldl_cons, fold_app x l]; simp
theorem op_mulT : OpR X (binaryOp .Mult) rMulT := by
  intro pins s σ H x y v u Q I rx ry h
  obtain ⟨a, k, rfl, rfl, h1, h2, h3, h4, q⟩ := h
  obtain ⟨t, rfl⟩ := rx
  obtain ⟨t', rfl⟩ := ry
  have hl : (e_T a).length = a.length := e_T_len a
  have hpos : 0 < a.length := List.length_pos_iff.mpr h3
  have e1 : (k == 1 || (e_T a).length == 0) = false := by
    rw [hl, Bool.or_eq_false_iff]
    exact ⟨beq_eq_false_iff_ne.mpr (by omega), beq_eq_false_iff_ne.mpr (by omega)⟩
  have hz : (1000000 : Nat) ≤ sizeLine := by decide
  have hm : a.length * k.toNat ≤ 1000000 := Nat.le_trans (Nat.mul_le_mul h4 (show k.toNat ≤ 1000 by omega)) (by decide)
  have e2 : (⟨(List.replicate k.toNat (e_T a).cps).foldl (· ++ ·) #[]⟩ : Str) = e_T (List.replicate k.toNat a).flatten := by
    show (⟨_⟩ : Str) = ⟨_⟩
    congr 1
    apply Array.toList_inj.mp
    rw [fold_app #[]]
    simp [e_T]
  have e3 : ((List.replicate k.toNat a).flatten).length = k.toNat * a.length := by simp
  refine P.mul_str ?_ (fun _ _ => ?_) (fun _ _ => ?_) ?_
  · rw [decide_eq_false (by omega), decide_eq_false (by omega)]; rfl
  · rw [hl]
    have : (1000000000 : Int) ≤ (2 ^ 63 - 1) / k := by
      refine Int.le_ediv_of_mul_le (by omega) ?_
      have : 1000000000 * k ≤ 1000000000 * 1000 := Int.mul_le_mul_of_nonneg_left h2 (by decide)
      omega
    omega
  · rw [hl]
    show decide _ = false
    rw [decide_eq_false_iff_not]
    omega
  · rw [if_neg (by omega), e1, if_neg (by decide), e2]
    refine ⟨?_, ?_⟩
    · rw [e_T_len, e3]
      have : k.toNat * a.length = a.length * k.toNat := Nat.mul_comm ..
      omega
    · exact ⟨.str _, H, I.tok _, ⟨_, rfl⟩, q⟩
theorem q_mulT {a z : Wrd} {k : Int} (e : mulT a k = some z) (q : Q (.str (e_T z)) H) : rMulT (.str (e_T a)) (.int k) H Q := by
  obtain ⟨c, rfl⟩ := ifS e
  exact ⟨a, k, rfl, rfl, c.1, c.2.1, c.2.2.1, c.2.2.2, q⟩
/-! list(text) -/
def rListTx : List V → Hp → VK → Prop := fun xs H Q => ∃ z : Str, xs = [.str z] ∧ z.cps.size ≤ sizeLine ∧ ∀ l, H l = none → Q (.ref l) (upd H l (.lst (z.cps.toList.map fun c => V.str ⟨#[c]⟩)))
theorem call_listTx (hc : X.calm = true) : CallR X (.type "list") rListTx := by
  intro pins s σ H xs us Q I r h
  obtain ⟨z, rfl, hz, q⟩ := h
  obtain ⟨u, rfl, t, rfl⟩ := vals1 r
  refine call_list_str (I.ok.hd hc) z t (fun h' tk acc' c' hk hg hi => ?_) hz
  refine ⟨.ref s.heap.objs.size, _, I.laid (t' := tk) hk (Nat.le_refl _) (show ObjOk X.prog X.w _ h' _ (.lst (z.cps.toList.map fun c => V.str ⟨#[c]⟩)) from ⟨by simpa using hz, acc'.toList, c', ?_, by simpa using hg⟩), rfl, q _ (I.hok.fresh (Nat.le_refl _))⟩
  refine vals_of_idx _ _ (by simp [hi.1]) fun j v hj => ?_
  obtain ⟨c, u, e1, e2⟩ := hi.2 j v (by simpa using hj)
  exact ⟨.str ⟨#[c]⟩, by simp [e1], u, e2⟩
theorem q_listTx {w : Wrd} {z : List Wrd} (S : Sub G O H) (e : lsTx w = some z) (q : ∀ u G' H', Ext G G' → Sub G' O H' → (rM rTx).rel G' u z → Q u H') : rListTx [.str (e_T w)] H Q := by
  obtain ⟨c, rfl⟩ := ifS e
  refine ⟨_, rfl, by rw [show (e_T w).cps.size = (e_T w).length from rfl, e_T_len]; exact sz c, fun l hl => ?_⟩
  refine q _ _ _ (S.extNew hl _) (S.new hl) ⟨l, _, rfl, upd_same, ?_⟩
  have := sg_al (G := upd G l (.lst ((e_T w).cps.toList.map fun c => V.str ⟨#[c]⟩))) w
  simpa [e_T, sgT] using this
theorem q_joinIT {K : PySem.W.Frag} {G H : Hp} {O : Own} {v : V} {xs : List Ink} {z : Ink} {Q : VK} (S : Sub G O H) (h : (rT K (rEn e_Ink)).rel G v xs) (e : joinI xs = some z) (q : Q (.str (e_Ink z)) H) : rJoin K (.str (e_Ink [])) [v] H Q := by
  obtain ⟨c, rfl⟩ := ifS e
  obtain ⟨p, vs, rfl, hs, ha⟩ := h
  have hv := al_ink ha
  subst hv
  refine ⟨_, p, xs.map e_Ink, rfl, rfl, .inr (sqT_up S.ext hs), ?_, ?_⟩
  · have e1 : ((xs.map e_Ink).map (·.length)).sum = xs.flatten.length := by
      rw [List.length_flatten, List.map_map]
      congr 1
      apply List.map_congr_left
      intro a _
      exact e_Ink_len a
    rw [e1, e_Ink_len]
    show xs.flatten.length + (xs.map e_Ink).length * 0 ≤ _
    omega
  · rw [join_ink]; exact q
end
end Mr

set_option Elab.async false
set_option linter.all false
set_option maxRecDepth 100000
set_option maxHeartbeats 2000000
/-! TreeK: keys of dicts that are trees: numbers, truth values, texts, None, and tuples of keys. -/
namespace Mr
open PySem PySem.Spec PyProof.Rows L2
/-! ### the kind of key: a truth value is a number -/
def keyB : L2.Key → Value → Bool
  | k, .bool b => decide (k = .inl (PpSet.b2 b))
  | k, v => keyIs k v
theorem keyB_of {k : L2.Key} {v : Value} (h : keyB k v = true) : (∃ b, k = .inl (PpSet.b2 b) ∧ v = .bool b) ∨ (keyIs k v = true ∧ ∀ b, v ≠ .bool b) := by
  cases v with
  | bool b => exact .inl ⟨b, of_decide_eq_true h, rfl⟩
  | _ => exact .inr ⟨h, fun b z => by cases z⟩
theorem b2_beq (a b : Bool) : (PpSet.b2 a == PpSet.b2 b) = (a == b) := by cases a <;> cases b <;> rfl
def kindB (P : Program) (w : World) : PySem.KeyKind P w L2.Key where
  is := keyB
  hash := keyH w
  inj := fun v a b ha hb => by
    rcases keyB_of ha with ⟨x, h1, h2⟩ | ⟨h1, h2⟩
    · rcases keyB_of hb with ⟨y, k1, k2⟩ | ⟨k1, k2⟩
      · rw [h2] at k2; cases k2; rw [h1, k1]
      · exact absurd h2 (k2 x)
    · rcases keyB_of hb with ⟨y, k1, k2⟩ | ⟨k1, k2⟩
      · exact absurd k2 (h2 y)
      · exact (mixKind P w).inj v a b h1 k1
  byValue := fun k v h => by
    rcases keyB_of h with ⟨x, _, h2⟩ | ⟨h1, _⟩
    · rw [h2]; rfl
    · exact (mixKind P w).byValue k v h1
  pyHash := fun {A E s k v Q} hv h => by
    rcases keyB_of hv with ⟨x, h1, h2⟩ | ⟨h1, _⟩
    · subst h1
      subst h2
      exact PpSet.pyHash_bool h
    · exact (mixKind P w).pyHash h1 h
  eqBool := fun {A E s a b u v Q} hu hv h => by
    rcases keyB_of hu with ⟨x, h1, h2⟩ | ⟨h1, h2⟩
    · subst h1
      subst h2
      rcases keyB_of hv with ⟨y, k1, k2⟩ | ⟨k1, k2⟩
      · subst k1
        subst k2
        rw [key_ll, b2_beq] at h
        exact SeqAt.EqAt.bool_bool x y _ _ _ _ h
      · rcases keyIs_shape k1 with ⟨j, t, rfl, rfl⟩ | ⟨z, t, rfl, rfl⟩
        · rw [key_ll] at h
          exact SeqAt.EqAt.bool_int x j t _ _ _ _ h
        · rw [key_lr] at h
          exact SeqAt.EqAt.bool_str x z t _ _ _ _ h
    · rcases keyB_of hv with ⟨y, k1, k2⟩ | ⟨k1, k2⟩
      · subst k1
        subst k2
        rcases keyIs_shape h1 with ⟨j, t, rfl, rfl⟩ | ⟨z, t, rfl, rfl⟩
        · rw [key_ll] at h
          exact SeqAt.EqAt.int_bool j t y _ _ _ _ h
        · rw [key_rl] at h
          exact SeqAt.EqAt.str_bool z t y _ _ _ _ h
      · exact (mixKind P w).eqBool h1 k1 h
  «strs» := fun k x t v h => by
    have h1 : keyIs k (.str x t) = true := h
    rcases keyIs_shape h1 with ⟨i, u, rfl, e⟩ | ⟨y, u, rfl, e⟩
    · cases e
    · cases e
      cases v <;> rfl
def kB : V → Option L2.Key
  | .int i => some (.inl i)
  | .str s => some (.inr s)
  | .bl b => some (.inl (PpSet.b2 b))
  | _ => none
theorem kB_is {v : V} {u : Value} {k : L2.Key} (h : kB v = some k) (r : RelV v u) : keyB k u = true := by
  cases v with
  | int i => cases h; obtain ⟨t, rfl⟩ := (show ∃ t, u = .int i t from r); exact keyIs_int i t
  | str s => cases h; obtain ⟨t, rfl⟩ := (show ∃ t, u = .str s t from r); exact keyIs_str s t
  | bl b => cases h; obtain rfl := (show u = .bool b from r); exact decide_eq_true rfl
  | _ => cases h
/-! ### trees -/
inductive TK where
  | sc (k : L2.Key)
  | non
  | tup (l : List TK)
mutual
def TK.same : TK → TK → Bool
  | .sc a, .sc b => decide (a = b)
  | .non, .non => true
  | .tup l, .tup m => TK.sames l m
  | _, _ => false
def TK.sames : List TK → List TK → Bool
  | [], [] => true
  | a :: l, b :: m => TK.same a b && TK.sames l m
  | _, _ => false
end
mutual
theorem TK.same_of : ∀ (a b : TK), TK.same a b = true → a = b
  | .sc a, .sc b, h => by rw [TK.same, decide_eq_true_iff] at h; rw [h]
  | .non, .non, _ => rfl
  | .tup l, .tup m, h => by rw [TK.same] at h; rw [TK.sames_of l m h]
  | .sc _, .non, h => by simp [TK.same] at h
  | .sc _, .tup _, h => by simp [TK.same] at h
  | .non, .sc _, h => by simp [TK.same] at h
  | .non, .tup _, h => by simp [TK.same] at h
  | .tup _, .sc _, h => by simp [TK.same] at h
  | .tup _, .non, h => by simp [TK.same] at h
theorem TK.sames_of : ∀ (l m : List TK), TK.sames l m = true → l = m
  | [], [], _ => rfl
  | a :: l, b :: m, h => by
    rw [TK.sames, Bool.and_eq_true] at h
    rw [TK.same_of a b h.1, TK.sames_of l m h.2]
  | [], _ :: _, h => by simp [TK.sames] at h
  | _ :: _, [], h => by simp [TK.sames] at h
end
mutual
theorem TK.same_self : ∀ a : TK, TK.same a a = true
  | .sc a => by rw [TK.same]; exact decide_eq_true rfl
  | .non => rfl
  | .tup l => by rw [TK.same]; exact TK.sames_self l
theorem TK.sames_self : ∀ l : List TK, TK.sames l l = true
  | [] => rfl
  | a :: l => by rw [TK.sames, TK.same_self a, TK.sames_self l]; rfl
end
instance : DecidableEq TK := fun a b => if h : TK.same a b = true then isTrue (TK.same_of a b h) else isFalse fun e => h (e ▸ TK.same_self a)
mutual
/-- a value that is a key, at most n tuples deep -/
inductive IsT (h : Heap) : Nat → TK → Value → Prop
  | sc {n : Nat} {k : L2.Key} {v : Value} : keyB k v = true → IsT h n (.sc k) v
  | non {n : Nat} : IsT h n .non .none
  | tup {n : Nat} {ks : List TK} {a : Addr} {o : Obj} {items : Array Value} {m : Nat} : h.get? a = some o → o.cls = .type "tuple" → o.data = .seq items m → IsTs h n ks items.toList → IsT h (n + 1) (.tup ks) (.ref a)
inductive IsTs (h : Heap) : Nat → List TK → List Value → Prop
  | nil {n : Nat} : IsTs h n [] []
  | cons {n : Nat} {k : TK} {v : Value} {ks : List TK} {vs : List Value} : IsT h n k v → IsTs h n ks vs → IsTs h n (k :: ks) (v :: vs)
end
theorem keyB_ref {k : L2.Key} {a : Addr} (h : keyB k (.ref a) = true) : False := by
  rcases keyB_of h with ⟨b, _, e⟩ | ⟨h, _⟩
  · cases e
  · rcases keyIs_shape h with ⟨j, t, _, e⟩ | ⟨z, t, _, e⟩ <;> cases e
theorem keyB_none {k : L2.Key} (h : keyB k .none = true) : False := by
  rcases keyB_of h with ⟨b, _, e⟩ | ⟨h, _⟩
  · cases e
  · rcases keyIs_shape h with ⟨j, t, _, e⟩ | ⟨z, t, _, e⟩ <;> cases e
mutual
theorem IsT.inj {P : Program} {w : World} {h : Heap} : ∀ {n m : Nat} {x y : TK} {v : Value}, IsT h n x v → IsT h m y v → x = y
  | _, _, _, _, _, .sc h1, hy => by
    cases hy with
    | sc h2 => rw [(kindB P w).inj _ _ _ h1 h2]
    | non => exact (keyB_none h1).elim
    | tup _ _ _ _ => exact (keyB_ref h1).elim
  | _, _, _, _, _, .non, hy => by
    cases hy with
    | sc h2 => exact (keyB_none h2).elim
    | non => rfl
  | _, _, _, _, _, .tup g1 c1 d1 i1, hy => by
    cases hy with
    | sc h2 => exact (keyB_ref h2).elim
    | tup g2 c2 d2 i2 =>
      have e := Option.some.inj (g1.symm.trans g2)
      subst e
      rw [d1] at d2
      injection d2 with e1 _
      subst e1
      rw [IsTs.inj (P := P) (w := w) i1 i2]
theorem IsTs.inj {P : Program} {w : World} {h : Heap} : ∀ {n m : Nat} {x y : List TK} {vs : List Value}, IsTs h n x vs → IsTs h m y vs → x = y
  | _, _, _, _, _, .nil, hy => by cases hy; rfl
  | _, _, _, _, _, .cons a b, hy => by
    cases hy with
    | cons c d => rw [IsT.inj (P := P) (w := w) a c, IsTs.inj (P := P) (w := w) b d]
end
mutual
theorem IsT.keeps {h h' : Heap} {d : Addr} {o : Obj} {es : Array DictEntry} {ep : Nat} (ho : h.get? d = some o) (hd : o.data = .dict es ep) (hs : Heap.SameBut d h h') : ∀ {n : Nat} {x : TK} {v : Value}, IsT h n x v → IsT h' n x v
  | _, _, _, .sc h1 => .sc h1
  | _, _, _, .non => .non
  | _, _, _, .tup (a := a) g1 c1 d1 i1 => by
    have hne : a ≠ d := fun e => by
      rw [e, ho] at g1
      cases g1
      rw [hd] at d1
      cases d1
    exact .tup ((hs.2 a hne).trans g1) c1 d1 (IsTs.keeps ho hd hs i1)
theorem IsTs.keeps {h h' : Heap} {d : Addr} {o : Obj} {es : Array DictEntry} {ep : Nat} (ho : h.get? d = some o) (hd : o.data = .dict es ep) (hs : Heap.SameBut d h h') : ∀ {n : Nat} {x : List TK} {v : List Value}, IsTs h n x v → IsTs h' n x v
  | _, _, _, .nil => .nil
  | _, _, _, .cons a b => .cons (IsT.keeps ho hd hs a) (IsTs.keeps ho hd hs b)
end
mutual
theorem IsT.grow {h h' : Heap} (k : ∀ b o, h.get? b = some o → h'.get? b = some o) : ∀ {n : Nat} {x : TK} {v : Value}, IsT h n x v → IsT h' n x v
  | _, _, _, .sc h1 => .sc h1
  | _, _, _, .non => .non
  | _, _, _, .tup g1 c1 d1 i1 => .tup (k _ _ g1) c1 d1 (IsTs.grow k i1)
theorem IsTs.grow {h h' : Heap} (k : ∀ b o, h.get? b = some o → h'.get? b = some o) : ∀ {n : Nat} {x : List TK} {v : List Value}, IsTs h n x v → IsTs h' n x v
  | _, _, _, .nil => .nil
  | _, _, _, .cons a b => .cons (IsT.grow k a) (IsTs.grow k b)
end
theorem IsTs.length {h : Heap} : ∀ {n : Nat} {x : List TK} {vs : List Value}, IsTs h n x vs → x.length = vs.length
  | _, _, _, .nil => rfl
  | _, _, _, .cons _ b => congrArg Nat.succ b.length
theorem IsTs.get {h : Heap} : ∀ {n : Nat} {x : List TK} {vs : List Value}, IsTs h n x vs → ∀ v ∈ vs, ∃ k, IsT h n k v
  | _, _, _, .nil, v, hv => nomatch hv
  | _, _, _, .cons a b, v, hv => by
    rcases List.mem_cons.mp hv with e | e
    · subst e; exact ⟨_, a⟩
    · exact b.get v e
/-! ### hashes -/
def hashN : Int := 0xFCA86420
mutual
def hashT (w : World) : TK → Int
  | .sc k => keyH w k
  | .non => hashN
  | .tup l => reduceHash (Builtin.Tuple.tupleHashOf (hashTs w l))
def hashTs (w : World) : List TK → List Int
  | [] => []
  | k :: l => hashT w k :: hashTs w l
end
theorem hashTs_map (w : World) : ∀ l : List TK, hashTs w l = l.map (hashT w)
  | [] => rfl
  | k :: l => by rw [hashTs, hashTs_map w l]; rfl
mutual
def drawsT : TK → Nat
  | .sc _ => 1
  | .non => 1
  | .tup l => drawsTs l + 1
def drawsTs : List TK → Nat
  | [] => 0
  | k :: l => drawsT k + drawsTs l
end
theorem drawsTs_app : ∀ (l m : List TK), drawsTs (l ++ m) = drawsTs l + drawsTs m
  | [], m => by simp [drawsTs]
  | k :: l, m => by
    show drawsT k + drawsTs (l ++ m) = drawsT k + drawsTs l + drawsTs m
    rw [drawsTs_app l m]; omega
theorem pyHash_none {prog : Program} {w : World} {A : Around} {E : Value → Shared → Prop} {s : Shared} {Q : Int → Shared → Prop} (h : Q hashN { s with toks := s.toks + 1 }) :
    wpAny (model prog w) A (pyHash .none) Q E s := by
  have hT : s.TypeIs .none "NoneType" := rfl
  unfold pyHash
  have hv : [Value.none].any Value.onHeap = false := rfl
  refine wpAny_bind ?_
  rw [cRoomFor, if_neg (by rw [hv]; exact Bool.false_ne_true)]; refine wpAny_pure ?_
  refine wpAny_bind (wpAny_specialOf hT PySem.F.slot_NoneType_hash.lookup ?_)
  show wpAny _ _ (if (some (Value.builtin "NoneType.__hash__") == some Value.none) = true then _ else _) Q E s
  rw [if_neg (by rw [beq_builtin_none]; exact Bool.false_ne_true)]
  refine wpAny_bind (wpAny_specialOf hT PySem.F.slot_NoneType_hash.lookup ?_)
  show wpAny _ _ (callSpecialIfBoundUnlessNone? .none "__hash__" _ >>= _) Q E s
  refine wpAny_bind (wpAny_callSpecialIfBoundUnlessNone?_slot hT PySem.F.slot_NoneType_hash
    (wpAny_call_entry PySem.F.slot_NoneType_hash hT PySem.F.entry_NoneType_hash
      (show wpAny _ _ (do ret (← mkInt hashN)) _ _ s from wpAny_ret_mkInt ?_) (PySem.F.args_NoneType_hash_1 _)))
  exact wpAny_pure h
/-! ### loops over the items of a key -/
section
variable {M : Model} {A : Around} {E : Value → Shared → Prop} {β : Type} {n : Nat} {hz : Heap}
def sumK (dr : TK → Nat) : List TK → Nat
  | [] => 0
  | k :: l => dr k + sumK dr l
/-- each item brings the state forth, and draws -/
theorem run_items {f : Value → β → Sem (ForInStep β)} (g : β → TK → β) (dr : TK → Nat)
    (hf : ∀ {s : Shared} {k : TK} {v : Value} {b : β} {Q : ForInStep β → Shared → Prop}, s.heap = hz → IsT hz n k v → Q (.yield (g b k)) { s with toks := s.toks + dr k } → wpAny M A (f v b) Q E s) :
    ∀ {ks : List TK} {vs : List Value}, IsTs hz n ks vs → ∀ {s : Shared} {b : β} {Q : β → Shared → Prop}, s.heap = hz → Q (ks.foldl g b) { s with toks := s.toks + sumK dr ks } → wpAny M A (forIn vs b f) Q E s
  | _, _, .nil, s, b, Q, hs, q => by
    rw [List.forIn_nil]
    exact wpAny_pure q
  | _, _, .cons (k := k) (ks := ks) t r, s, b, Q, hs, q => by
    rw [List.forIn_cons]
    refine wpAny_bind (hf hs t (run_items g dr hf r hs ?_))
    show Q (ks.foldl g (g b k)) { s with toks := s.toks + dr k + sumK dr ks }
    rw [Nat.add_assoc]
    exact q
/-- whether two rows of keys agree as far as both go -/
def preK : List TK → List TK → Bool
  | a :: l, b :: m => decide (a = b) && preK l m
  | _, _ => true
theorem preK_iff : ∀ {l m : List TK}, l.length = m.length → (preK l m = true ↔ l = m)
  | [], [], _ => by simp [preK]
  | a :: l, b :: m, h => by
    have ih := preK_iff (l := l) (m := m) (Nat.succ.inj h)
    rw [preK, Bool.and_eq_true, decide_eq_true_iff, ih, List.cons.injEq]
  | [], _ :: _, h => by simp at h
  | _ :: _, [], h => by simp at h
/-- pairs of items are compared until two differ -/
theorem run_pairs {f : Value × Value → β → Sem (ForInStep β)} {b0 b1 : β}
    (hf : ∀ {s : Shared} {x y : TK} {u v : Value} {Q : ForInStep β → Shared → Prop}, s.heap = hz → IsT hz n x u → IsT hz n y v → Q (if x = y then .yield b0 else .done b1) s → wpAny M A (f (u, v) b0) Q E s) :
    ∀ {xs ys : List TK} {us vs : List Value}, IsTs hz n xs us → IsTs hz n ys vs → ∀ {s : Shared} {Q : β → Shared → Prop}, s.heap = hz → Q (if preK xs ys = true then b0 else b1) s → wpAny M A (forIn (us.zip vs) b0 f) Q E s
  | _, _, _, _, .nil, _, s, Q, hs, q => by
    rw [List.zip_nil_left, List.forIn_nil]
    exact wpAny_pure q
  | _, _, _, _, .cons _ _, .nil, s, Q, hs, q => by
    rw [List.zip_nil_right, List.forIn_nil]
    exact wpAny_pure q
  | _, _, _, _, .cons (k := x) (ks := xs) t r, .cons (k := y) (ks := ys) t2 r2, s, Q, hs, q => by
    rw [List.zip_cons_cons, List.forIn_cons]
    refine wpAny_bind (hf hs t t2 ?_)
    by_cases c : x = y
    · rw [if_pos c]
      refine run_pairs hf r r2 hs ?_
      rw [preK, decide_eq_true c, Bool.true_and] at q
      exact q
    · rw [if_neg c]
      rw [preK, decide_eq_false c, Bool.false_and] at q
      exact wpAny_pure q
end
theorem sumK_draws : ∀ l : List TK, sumK drawsT l = drawsTs l
  | [] => rfl
  | k :: l => by rw [sumK, sumK_draws l]; rfl
theorem fold_push (w : World) : ∀ (l : List TK) (b : Array Int), (l.foldl (fun b k => b.push (hashT w k)) b).toList = b.toList ++ hashTs w l
  | [], b => by simp [hashTs]
  | k :: l, b => by rw [List.foldl_cons, fold_push w l, hashTs]; simp
theorem fold_id {β : Type} (b : β) : ∀ l : List TK, l.foldl (fun _ _ => b) b = b
  | [] => rfl
  | _ :: l => fold_id b l
theorem sum_zero : ∀ l : List TK, sumK (fun _ => 0) l = 0
  | [] => rfl
  | _ :: l => by rw [sumK, sum_zero l]
section
variable {prog : Program} {w : World}
/-- int(..) of a hash that a tuple tells -/
theorem reduce_ok {A : Around} {E : Value → Shared → Prop} {s : Shared} {i : Int} {Q : Int → Shared → Prop} (q : Q (reduceHash i) s) : wpAny (model prog w) A (pyHashByItsType.reduced i) Q E s := by
  unfold pyHashByItsType.reduced
  unfold reduceHash at q
  dsimp only
  split at q
  · rename_i c
    rw [if_pos c]
    exact wpAny_pure q
  · rename_i c
    rw [if_neg c]
    exact wpAny_bind (wpAny_rule (wpAny_pure q))
theorem hash_ok : ∀ (n : Nat) {A : Around} {E : Value → Shared → Prop} {s : Shared} {k : TK} {v : Value} {Q : Int → Shared → Prop}, IsT s.heap n k v → A.units + n < cLine → Q (hashT w k) { s with toks := s.toks + drawsT k } →
    wpAny (model prog w) A (PySem.pyHash v) Q E s
  | n, A, E, s, _, _, Q, .sc h1, hu, q => (kindB prog w).pyHash h1 (by rw [hashT] at q; exact q)
  | n, A, E, s, _, _, Q, .non, hu, q => pyHash_none (by rw [hashT] at q; exact q)
  | n + 1, A, E, s, _, _, Q, .tup (ks := ks) (a := a) (items := its) go co dt it, hu, q => by
    have ty : s.TypeIs (.ref a) "tuple" := ⟨_, go, co⟩
    have lk := F.slot_tuple_hash.lookup
    unfold pyHash pyHashByItsType
    refine wpAny_bind (wpAny_cRoomFor_or (.inr (by omega)) (wpAny_bind (wpAny_specialOf ty lk ?_)))
    rw [if_neg (by rw [beq_builtin_none]; simp)]
    refine wpAny_bind (wpAny_specialOf ty lk ?_)
    show wpAny _ _ (callSpecialIfBoundUnlessNone? _ _ _ >>= _) Q E s
    refine wpAny_bind (wpAny_callSpecialIfBoundUnlessNone?_slot ty F.slot_tuple_hash (wpAny_call_entry F.slot_tuple_hash ty F.entry_tuple_hash ?_ (F.args_tuple_hash_1 _)))
    show wpAny _ A.in1 (Builtin.Tuple.tupleItemsOf (.ref a) >>= _) _ E s
    refine wpAny_bind (wpAny_tupleItemsOf go dt (wpAny_bind ?_))
    rw [← Array.forIn_toList]
    refine run_items (n := n) (fun b k => b.push (hashT w k)) drawsT (fun {s1 k1 v1 b1 Q1} e1 t1 q1 => ?_) it rfl ?_
    · rw [← e1] at t1
      first
        | exact wpAny_bind (hash_ok n t1 (by show A.units + 1 + n < cLine; omega) (wpAny_pure q1))
        | exact wpAny_bind (hash_ok n t1 (by show A.units + 1 + n < cLine; omega) (wpAny_bind (wpAny_pure (wpAny_pure q1))))
    · rw [sumK_draws]
      show wpAny _ _ (retInt (Builtin.Tuple.tupleHashOf (Array.toList _))) _ _ _
      rw [fold_push]
      rw [hashT, drawsT] at q
      exact wpAny_ret_mkInt (reduce_ok (by simpa [Nat.add_assoc] using q))
/-! ### equality -/
theorem sc_ne_tup {k : L2.Key} {l : List TK} : decide (TK.sc k = TK.tup l) = false := decide_eq_false fun e => by cases e
theorem tup_ne_sc {k : L2.Key} {l : List TK} : decide (TK.tup l = TK.sc k) = false := decide_eq_false fun e => by cases e
theorem eqB_ok {A : Around} {s : Shared} {a b : L2.Key} {u v : Value} (h1 : keyB a u = true) (h2 : keyB b v = true) {E : Value → Shared → Prop} {Q : Bool → Shared → Prop} (h : Q (decide (TK.sc a = TK.sc b)) s) : wpAny (model prog w) A (PySem.eqBool u v) Q E s :=
  (kindB prog w).eqBool h1 h2 (by
    have : decide (TK.sc a = TK.sc b) = decide (a = b) := decide_eq_decide.mpr ⟨fun e => by cases e; rfl, fun e => by rw [e]⟩
    rw [← this]; exact h)
theorem eqS_ok {m : Nat} {A : Around} {E : Value → Shared → Prop} {s : Shared} {x : TK} {k : L2.Key} {u v : Value} {Q : Bool → Shared → Prop} (hu : A.units < cLine) (hk : keyB k u = true) (hx : IsT s.heap m x v) :
    (Q (decide (TK.sc k = x)) s → wpAny (model prog w) A (PySem.eqBool u v) Q E s) ∧ (Q (decide (x = TK.sc k)) s → wpAny (model prog w) A (PySem.eqBool v u) Q E s) := by
  cases hx with
  | sc h2 => exact ⟨eqB_ok hk h2, eqB_ok h2 hk⟩
  | non =>
    have e1 : decide (TK.sc k = TK.non) = false := decide_eq_false fun e => by cases e
    have e2 : decide (TK.non = TK.sc k) = false := decide_eq_false fun e => by cases e
    rw [e1, e2]
    rcases keyB_of hk with ⟨b, _, e⟩ | ⟨hk, _⟩
    · subst e; exact ⟨fun h => SeqAt.EqAt.bool_none b _ _ _ _ h, fun h => SeqAt.EqAt.none_bool b _ _ _ _ h⟩
    · rcases keyIs_shape hk with ⟨j, t, _, rfl⟩ | ⟨z, t, _, rfl⟩
      · exact ⟨fun h => SeqAt.EqAt.int_none j t _ _ _ _ h, fun h => SeqAt.EqAt.none_int j t _ _ _ _ h⟩
      · exact ⟨fun h => SeqAt.EqAt.str_none z t _ _ _ _ h, fun h => SeqAt.EqAt.none_str z t _ _ _ _ h⟩
  | tup g c d i =>
    rw [sc_ne_tup, tup_ne_sc]
    rcases keyB_of hk with ⟨b, _, e⟩ | ⟨hk, _⟩
    · subst e; exact ⟨fun h => SeqAt.EqAt.bool_tuple b ⟨_, g, c, _, d⟩ hu _ _ _ _ h, fun h => SeqAt.EqAt.tuple_bool b ⟨_, g, c, _, d⟩ hu _ _ _ _ h⟩
    · rcases keyIs_shape hk with ⟨j, t, _, rfl⟩ | ⟨z, t, _, rfl⟩
      · exact ⟨fun h => SeqAt.EqAt.int_tuple j t ⟨_, g, c, _, d⟩ hu _ _ _ _ h, fun h => SeqAt.EqAt.tuple_int j t ⟨_, g, c, _, d⟩ hu _ _ _ _ h⟩
      · exact ⟨fun h => SeqAt.EqAt.str_tuple z t ⟨_, g, c, _, d⟩ hu _ _ _ _ h, fun h => SeqAt.EqAt.tuple_str z t ⟨_, g, c, _, d⟩ hu _ _ _ _ h⟩
theorem eq_ok : ∀ (n : Nat) {A : Around} {E : Value → Shared → Prop} {s : Shared} {x y : TK} {u v : Value} {Q : Bool → Shared → Prop}, IsT s.heap n x u → IsT s.heap n y v → A.units + n < cLine → Q (decide (x = y)) s →
    wpAny (model prog w) A (PySem.eqBool u v) Q E s
  | n, A, E, s, _, y, _, v, Q, .sc h1, hy, hu, q => (eqS_ok (by omega) h1 hy).1 q
  | n, A, E, s, x, _, u, _, Q, hx, .sc h2, hu, q => (eqS_ok (by omega) h2 hx).2 q
  | n, A, E, s, _, _, _, _, Q, .non, .non, hu, q => SeqAt.EqAt.same _ _ _ _ _ (by rw [decide_eq_true rfl] at q; exact q)
  | n + 1, A, E, s, _, _, _, _, Q, .non, .tup g c d i, hu, q => SeqAt.EqAt.none_tuple ⟨_, g, c, _, d⟩ (by omega) _ _ _ _ (by rw [decide_eq_false (fun e => by cases e)] at q; exact q)
  | n + 1, A, E, s, _, _, _, _, Q, .tup g c d i, .non, hu, q => SeqAt.EqAt.tuple_none ⟨_, g, c, _, d⟩ (by omega) _ _ _ _ (by rw [decide_eq_false (fun e => by cases e)] at q; exact q)
  | n + 1, A, E, s, _, _, _, _, Q, .tup (ks := x) (a := a) (items := us) g1 c1 d1 i1, .tup (ks := y) (a := b) (items := vs) g2 c2 d2 i2, hu, q => by
    have ta : s.TypeIs (.ref a) "tuple" := ⟨_, g1, c1⟩
    have tb : s.TypeIs (.ref b) "tuple" := ⟨_, g2, c2⟩
    have l1 := i1.length
    have l2 := i2.length
    rw [show decide (TK.tup x = TK.tup y) = decide (x = y) from decide_eq_decide.mpr ⟨fun e => by cases e; rfl, fun e => by rw [e]⟩] at q
    unfold eqBool
    try with_reducible refine wpAny_holding ?_
    by_cases same : (Value.ref a == Value.ref b) = true
    · have ea : Value.ref a = Value.ref b := eq_of_beq same
      cases ea
      have exy := IsT.inj (P := prog) (w := w) (IsT.tup g1 c1 d1 i1) (IsT.tup g2 c2 d2 i2)
      cases exy
      rw [decide_eq_true rfl] at q
      rw [if_pos same]
      exact wpAny_bind (wpAny_rule (wpAny_pure q))
    · rw [if_neg same]
      refine wpAny_bind (wpAny_richCompare_same_room (op := .Eq) ta tb F.slot_tuple_eq (wpAny_call_entry F.slot_tuple_eq ta F.entry_tuple_eq ?_ (F.args_tuple_eq_2 _ _)) (by omega))
      show wpAny _ A.in1 (isInstance (.ref b) (.type "tuple") >>= _) _ E s
      refine wpAny_bind (wpAny_isInstance tb isSubtype_tuple_tuple ?_)
      rw [Bool.not_true, if_neg Bool.false_ne_true]
      refine wpAny_bind (wpAny_tupleItemsOf g1 d1 (wpAny_bind (wpAny_tupleItemsOf g2 d2 (wpAny_bind ?_))))
      refine run_pairs (n := n) (b0 := (none, ())) (b1 := (some (Fin.done (Flow.ret (Value.bool false))), ())) (fun {s1 x1 y1 u1 v1 Q1} e1 t1 t2 q1 => ?_) i1 i2 rfl ?_
      · rw [← e1] at t1 t2
        refine wpAny_bind (eq_ok n t1 t2 (by show A.units + 1 + n < cLine; omega) ?_)
        by_cases c : x1 = y1
        · rw [if_pos c] at q1
          rw [decide_eq_true c, Bool.not_true, if_neg Bool.false_ne_true]
          exact wpAny_pure q1
        · rw [if_neg c] at q1
          rw [decide_eq_false c, Bool.not_false, if_pos rfl]
          exact wpAny_bind (wpAny_pure (wpAny_pure q1))
      · cases c : preK x y with
        | false =>
          have ne : x ≠ y := fun e => by
            rw [(preK_iff (by rw [e])).mpr e] at c
            cases c
          rw [decide_eq_false ne] at q
          rw [if_neg (by simp)]
          exact wpAny_pure ⟨_, rfl, (fun e => nomatch e), wpAny_truthy_bool q⟩
        | true =>
          rw [if_pos rfl]
          have sz : (us.size == vs.size) = decide (x = y) := by
            rw [← Array.length_toList, ← Array.length_toList, ← l1, ← l2]
            by_cases ll : x.length = y.length
            · rw [decide_eq_true ((preK_iff ll).mp c), ll]; simp
            · rw [decide_eq_false (fun e => ll (by rw [e]))]; simp [ll]
          show wpAny _ A.in1 (ret (.bool (us.size == vs.size))) _ E s
          rw [sz]
          exact wpAny_pure ⟨_, rfl, (fun e => nomatch e), wpAny_truthy_bool q⟩
theorem quiet_by {m : Nat} {A : Around} {E : Value → Shared → Prop} {s : Shared} {v : Value} {Q : Bool → Shared → Prop} (hv : carriedByValue v = true) (q : Q true s) : wpAny (model prog w) A (eqIsQuiet m v) Q E s := by
  rw [eqIsQuiet_byValue _ hv]
  exact wpAny_pure q
theorem quiet_ok (n : Nat) : ∀ (m : Nat) {A : Around} {E : Value → Shared → Prop} {s : Shared} {k : TK} {v : Value} {Q : Bool → Shared → Prop}, n < m → IsT s.heap n k v → Q true s → wpAny (model prog w) A (eqIsQuiet m v) Q E s := by
  induction n with
  | zero =>
    intro m A E s k v Q hm hk q
    cases hk with
    | sc h1 => exact quiet_by ((kindB prog w).byValue _ _ h1) q
    | non => exact quiet_by rfl q
  | succ n ih =>
    intro m A E s k v Q hm hk q
    cases hk with
    | sc h1 => exact quiet_by ((kindB prog w).byValue _ _ h1) q
    | non => exact quiet_by rfl q
    | @tup _ ks a o its mm go co dt it =>
      cases m with
      | zero => omega
      | succ m =>
        have ty : s.TypeIs (.ref a) "tuple" := ⟨_, go, co⟩
        unfold eqIsQuiet
        refine wpAny_bind (wpAny_specialOf ty F.slot_tuple_eq.lookup ?_)
        show wpAny _ A (isInstance (.ref a) (.type "tuple") >>= _) _ E s
        refine wpAny_bind (wpAny_isInstance ty isSubtype_tuple_tuple ?_)
        rw [Bool.not_true, if_neg Bool.false_ne_true]
        refine wpAny_bind (wpAny_seqItems go dt (wpAny_bind ?_))
        show wpAny _ A (forIn its _ _) _ E s
        rw [← Array.forIn_toList]
        refine run_items (n := n) (fun _ _ => (none, ())) (fun _ => 0) (fun {s1 k1 v1 b1 Q1} e1 t1 q1 => ?_) it rfl ?_
        · rw [← e1] at t1
          exact wpAny_bind (ih m (by omega) t1 (wpAny_pure q1))
        · rw [fold_id, sum_zero]
          exact wpAny_pure q
end
/-- at most seven tuples deep -/
def treeKind (P : Program) (w : World) : HeapKind P w TK where
  is := fun h k a => IsT h 7 k (.ref a)
  hash := hashT w
  draws := drawsT
  room := fun A => A.units + 7 < cLine
  inj := fun hx hy => IsT.inj (P := P) (w := w) hx hy
  keeps := fun x ho hd hs => x.keeps ho hd hs
  pyHash := fun hu hk h => hash_ok 7 hk hu h
  eqBool := fun hu hx hy h => eq_ok 7 hx hy hu h
  quiet := fun hk h => quiet_ok 7 8 (by decide) hk h
theorem treeKind_room_in1 {P : Program} {w : World} {A : Around} (hu : A.units + 8 < cLine) : (treeKind P w).room A.in1 := by
  show A.units + 1 + 7 < cLine
  omega
end Mr

set_option Elab.async false
set_option linter.all false
set_option maxRecDepth 100000
set_option maxHeartbeats 2000000
/-! DctG: dicts whose keys are tuples (trees: TreeK); the values anything. -/
namespace Mr
open PySem PySem.Spec PyProof.Rows L2
mutual
/-- a value that is a key, at most n tuples deep -/
inductive KyV (K : PySem.W.Frag) (H : Hp) : Nat → V → TK → Prop
  | sc {n : Nat} {v : V} {k : L2.Key} : kB v = some k → KyV K H n v (.sc k)
  | non {n : Nat} : KyV K H n .non .non
  | tup {n : Nat} {p : Addr} {vs : List V} {ks : List TK} : SqT K H p vs → KyVs K H n vs ks → KyV K H (n + 1) (.ref p) (.tup ks)
inductive KyVs (K : PySem.W.Frag) (H : Hp) : Nat → List V → List TK → Prop
  | nil {n : Nat} : KyVs K H n [] []
  | cons {n : Nat} {v : V} {k : TK} {vs : List V} {ks : List TK} : KyV K H n v k → KyVs K H n vs ks → KyVs K H n (v :: vs) (k :: ks)
end
mutual
theorem KyV.up {K : PySem.W.Frag} {G H : Hp} (e : Ext G H) : ∀ {n : Nat} {v : V} {k : TK}, KyV K G n v k → KyV K H n v k
  | _, _, _, .sc h => .sc h
  | _, _, _, .non => .non
  | _, _, _, .tup s h => .tup (sqT_up e s) (KyVs.up e h)
theorem KyVs.up {K : PySem.W.Frag} {G H : Hp} (e : Ext G H) : ∀ {n : Nat} {v : List V} {k : List TK}, KyVs K G n v k → KyVs K H n v k
  | _, _, _, .nil => .nil
  | _, _, _, .cons a b => .cons (KyV.up e a) (KyVs.up e b)
end
mutual
theorem KyV.is {X : Cx} {pins : List (Addr × Obj)} {σ : L2.St} {H : Hp} {s : Shared} (I : Inv X pins σ H s) : ∀ {n : Nat} {v : V} {k : TK} {u : Value}, KyV X.K H n v k → RelV v u → IsT s.heap n k u
  | _, _, _, _, .sc h, r => .sc (kB_is h r)
  | _, _, _, _, .non, r => by obtain rfl := (show _ = Value.none from r); exact .non
  | _, _, _, _, .tup s h, r => by
    obtain rfl := (show _ = Value.ref _ from r)
    obtain ⟨its, r2, ⟨o, k1, k2, n, k3⟩, _⟩ := I.tuple s
    exact .tup k1 k2 k3 (by simpa using KyVs.is I h r2)
theorem KyVs.is {X : Cx} {pins : List (Addr × Obj)} {σ : L2.St} {H : Hp} {s : Shared} (I : Inv X pins σ H s) : ∀ {n : Nat} {v : List V} {k : List TK} {u : List Value}, KyVs X.K H n v k → Vals v u → IsTs s.heap n k u
  | _, _, _, _, .nil, .nil => .nil
  | _, _, _, _, .cons a b, .cons r t => .cons (KyV.is I a r) (KyVs.is I b t)
end
/-- a tuple that is a key -/
def KyA (K : PySem.W.Frag) (H : Hp) (b : Addr) (k : TK) : Prop := KyV K H 7 (.ref b) k
theorem KyA.up {K : PySem.W.Frag} {G H : Hp} {b : Addr} {k : TK} (e : Ext G H) (h : KyA K G b k) : KyA K H b k := KyV.up e h
theorem KyA.is {X : Cx} {pins : List (Addr × Obj)} {σ : L2.St} {H : Hp} {s : Shared} {b : Addr} {k : TK} (h : KyA X.K H b k) (I : Inv X pins σ H s) : (treeKind X.prog X.w).is s.heap k b := KyV.is I h rfl
/-! ### the object -/
abbrev Ent := TK × Addr × V
def entB (w : World) (x : TK × Addr × Value) : DictEntry := ⟨hashT w x.1, .ref x.2.1, x.2.2⟩
abbrev EntR : List Ent → List (TK × Addr × Value) → Prop := Paired fun p q => p.1 = q.1 ∧ p.2.1 = q.2.1 ∧ RelV p.2.2 q.2.2
def DcO (w : World) (a : Addr) (kvs : List Ent) : HO := .ext fun h => kvs.length ≤ sizeLine ∧ (a == sysModules) = false ∧ ∃ xs, EntR kvs xs ∧
  ∃ (o : Obj) (es : Array DictEntry) (ep : Nat), h.get? a = some o ∧ o.ExactDict ∧ o.data = .dict es ep ∧ es.toList = xs.map (entB w) ∧ (xs.map (·.1)).Nodup
theorem dcO_stay {w : World} {a : Addr} {kvs : List Ent} {P : Program} {H : Hp} {h : Heap} (q : kvs.length ≤ sizeLine ∧ (a == sysModules) = false ∧ ∃ xs, EntR kvs xs ∧
  ∃ (o : Obj) (es : Array DictEntry) (ep : Nat), h.get? a = some o ∧ o.ExactDict ∧ o.data = .dict es ep ∧ es.toList = xs.map (entB w) ∧ (xs.map (·.1)).Nodup) : ObjOk P w H h a (DcO w a kvs) := by
  refine ⟨q, ?_, fun h1 h2 ⟨z, l, xs, r, o, es, ep, g, c⟩ st => ⟨z, l, xs, r, o, es, ep, st _ g, c⟩⟩
  obtain ⟨_, _, _, _, o, _, _, g, _⟩ := q
  exact ⟨o, g⟩
/-- it stands at a, its keys are known -/
def DcA (K : PySem.W.Frag) (w : World) (H : Hp) (a : Addr) (kvs : List Ent) : Prop := H a = some (DcO w a kvs) ∧ ∀ p ∈ kvs, KyA K H p.2.1 p.1
section
variable {X : Cx} {pins : List (Addr × Obj)} {σ : L2.St} {H : Hp} {s : Shared} {a b : Addr} {kvs : List Ent} {k : TK} {v : V}
theorem entR_mem : ∀ {kvs : List Ent} {xs : List (TK × Addr × Value)}, EntR kvs xs → ∀ x ∈ xs, ∃ p ∈ kvs, p.1 = x.1 ∧ p.2.1 = x.2.1
  | _, _, .nil, _, hx => nomatch hx
  | _, _, .cons q t, x, hx => by
    rcases List.mem_cons.mp hx with e | hx
    · subst e; exact ⟨_, .head _, q.1, q.2.1⟩
    · obtain ⟨p, hp, e⟩ := entR_mem t x hx
      exact ⟨p, .tail _ hp, e⟩
theorem DcA.of (h : DcA X.K X.w H a kvs) (I : Inv X pins σ H s) : kvs.length ≤ sizeLine ∧ (a == sysModules) = false ∧ ∃ xs, EntR kvs xs ∧ s.heap.DictOfH (treeKind X.prog X.w) a xs := by
  obtain ⟨⟨z, l, xs, r, o, es, ep, g, c1, c2, c3, c4⟩, _, _⟩ := (show ObjOk X.prog X.w H s.heap a (DcO X.w a kvs) from I.hok a _ h.1)
  refine ⟨z, l, xs, r, o, es, ep, g, c1, c2, c3, fun x hx => ?_, c4⟩
  obtain ⟨p, hp, e1, e2⟩ := entR_mem r x hx
  rw [← e1, ← e2]
  exact (h.2 p hp).is I
def valG (kvs : List Ent) (k : TK) : Option V := (kvs.find? fun p => decide (p.1 = k)).map (·.2.2)
def putG (kvs : List Ent) (k : TK) (b : Addr) (v : V) : List Ent := if (valG kvs k).isSome then kvs.map (fun p => if p.1 = k then (p.1, p.2.1, v) else p) else kvs ++ [(k, b, v)]
theorem entR_val (k : TK) : ∀ {kvs : List Ent} {xs : List (TK × Addr × Value)}, EntR kvs xs → RelO (valG kvs k) ((atKey xs k).map (·.2))
  | _, _, .nil => True.intro
  | _, _, .cons (a := p) (b := q) r t => by
    have ih := entR_val k t
    unfold valG atKey at ih ⊢
    by_cases c : p.1 = k
    · rw [List.find?_cons_of_pos (by simpa using c), List.find?_cons_of_pos (by rw [← r.1]; simpa using c)]
      exact r.2.2
    · rw [List.find?_cons_of_neg (by simpa using c), List.find?_cons_of_neg (by rw [← r.1]; simpa using c)]
      exact ih
theorem entR_len : ∀ {kvs : List Ent} {xs : List (TK × Addr × Value)}, EntR kvs xs → kvs.length = xs.length
  | _, _, .nil => rfl
  | _, _, .cons _ t => congrArg Nat.succ (entR_len t)
theorem entR_map (k : TK) {v : V} {u : Value} (rv : RelV v u) : ∀ {kvs : List Ent} {xs : List (TK × Addr × Value)}, EntR kvs xs → EntR (kvs.map fun p => if p.1 = k then (p.1, p.2.1, v) else p) (xs.map (putAt k u))
  | _, _, .nil => .nil
  | _, _, .cons (a := p) (b := q) r t => by
    refine .cons ?_ (entR_map k rv t)
    unfold putAt
    dsimp only
    by_cases c : p.1 = k
    · rw [if_pos c, if_pos (by rw [← r.1]; exact c)]; exact ⟨r.1, r.2.1, rv⟩
    · rw [if_neg c, if_neg (by rw [← r.1]; exact c)]; exact r
theorem entR_app {q : Ent} {y : TK × Addr × Value} (h : q.1 = y.1 ∧ q.2.1 = y.2.1 ∧ RelV q.2.2 y.2.2) : ∀ {kvs : List Ent} {xs : List (TK × Addr × Value)}, EntR kvs xs → EntR (kvs ++ [q]) (xs ++ [y])
  | _, _, .nil => .cons h .nil
  | _, _, .cons r t => .cons r (entR_app h t)
theorem entR_put {kvs : List Ent} {xs : List (TK × Addr × Value)} {b : Addr} {v : V} {u : Value} (k : TK) (rv : RelV v u) (r : EntR kvs xs) : EntR (putG kvs k b v) (storedH xs k b u) := by
  have e := (entR_val k r).isSome_eq
  rw [Option.isSome_map] at e
  unfold putG storedH
  rw [e]
  by_cases c : (atKey xs k).isSome = true
  · rw [if_pos c, if_pos c]; exact entR_map k rv r
  · rw [if_neg c, if_neg c]; exact entR_app ⟨rfl, rfl, rv⟩ r
theorem putG_len (kvs : List Ent) (k : TK) (b : Addr) (v : V) : (putG kvs k b v).length ≤ kvs.length + 1 := by
  unfold putG
  split <;> simp
theorem dca_type (h : DcA X.K X.w H a kvs) (I : Inv X pins σ H s) : s.TypeIs (.ref a) "dict" := by
  obtain ⟨_, _, xs, _, d⟩ := h.of I
  exact d.typeIs
theorem g_get {Q : Value → Shared → Prop} {A : Around} {E : Value → Shared → Prop} (hu : A.units + 8 < cLine) (I : Inv X pins σ H s) (h : DcA X.K X.w H a kvs) (hk : KyA X.K H b k) (hv : valG kvs k = some v) (q : ∀ u s', Inv X pins σ H s' → RelV v u → Q u s') :
    wpAny (model X.prog X.w) A (getItem (.ref a) (.ref b)) Q E s := by
  obtain ⟨_, _, xs, r, d⟩ := h.of I
  have e := entR_val k r
  rw [hv] at e
  cases ha : atKey xs k with
  | none => rw [ha] at e; exact e.elim
  | some p =>
    rw [ha] at e
    exact wpAny_getItem_heap (treeKind_room_in1 hu) (hk.is I) d ha (q _ _ (I.tok _) e)
theorem g_in {Q : Value → Shared → Prop} {A : Around} {E : Value → Shared → Prop} (hu : A.units + 8 < cLine) (I : Inv X pins σ H s) (h : DcA X.K X.w H a kvs) (hk : KyA X.K H b k) (q : ∀ s', Inv X pins σ H s' → Q (.bool (valG kvs k).isSome) s') :
    wpAny (model X.prog X.w) A (compareOp .In (.ref b) (.ref a)) Q E s := by
  obtain ⟨_, l, xs, r, d⟩ := h.of I
  have e := (entR_val k r).isSome_eq
  rw [Option.isSome_map] at e
  refine wpAny_in_heap (treeKind_room_in1 hu) (hk.is I) l d ?_
  rw [← e]
  exact q _ (I.tok _)
theorem g_notIn {Q : Value → Shared → Prop} {A : Around} {E : Value → Shared → Prop} (hu : A.units + 8 < cLine) (I : Inv X pins σ H s) (h : DcA X.K X.w H a kvs) (hk : KyA X.K H b k) (q : ∀ s', Inv X pins σ H s' → Q (.bool (!(valG kvs k).isSome)) s') :
    wpAny (model X.prog X.w) A (compareOp .NotIn (.ref b) (.ref a)) Q E s := by
  obtain ⟨_, l, xs, r, d⟩ := h.of I
  have e := (entR_val k r).isSome_eq
  rw [Option.isSome_map] at e
  refine wpAny_notIn_heap (treeKind_room_in1 hu) (hk.is I) l d ?_
  rw [← e]
  exact q _ (I.tok _)
theorem g_put {Q : Unit → Shared → Prop} {A : Around} {E : Value → Shared → Prop} {u : Value} (hu : A.units + 8 < cLine) (I : Inv X pins σ H s) (h : DcA X.K X.w H a kvs) (hk : KyA X.K H b k) (rv : RelV v u) (hl : kvs.length < sizeLine)
    (q : ∀ s', Inv X pins σ (upd H a (DcO X.w a (putG kvs k b v))) s' → Q () s') : wpAny (model X.prog X.w) A (setItem (.ref a) (.ref b) u) Q E s := by
  obtain ⟨z, l, xs, r, d⟩ := h.of I
  have hlx := entR_len r
  refine wpAny_setItem_heap (treeKind_room_in1 hu) (hk.is I) d (fun h' d' sb => ?_) (by omega)
  obtain ⟨o, es, ep, g, c1, c2, c3, _, c5⟩ := d'
  refine q _ (I.write (t' := s.toks + (treeKind X.prog X.w).draws k) (by rw [h.1]; exact True.intro) (.inl rfl) (fun c o' hc e => (sb.2 c hc).trans e) ⟨o, g⟩ (dcO_stay ⟨?_, l, _, entR_put k rv r, o, es, ep, g, c1, c2, c3, c5⟩))
  have := putG_len kvs k b v
  omega
end
/-! ### the readings -/
def tGGet (K : PySem.W.Frag) (w : World) (td ty : TE) : TE := fun σ H Q => td σ H fun x H1 => ty σ H1 fun y H2 => ∃ a kvs k b v, x = .ref a ∧ DcA K w H2 a kvs ∧ y = .ref b ∧ KyA K H2 b k ∧ valG kvs k = some v ∧ Q v H2
def tGIn (K : PySem.W.Frag) (w : World) (n : Bool) (ty td : TE) : TE := fun σ H Q => ty σ H fun y H1 => td σ H1 fun x H2 => ∃ a kvs k b, x = .ref a ∧ DcA K w H2 a kvs ∧ y = .ref b ∧ KyA K H2 b k ∧ Q (.bl (n != (valG kvs k).isSome)) H2
def sGPut (K : PySem.W.Frag) (w : World) (td ty tv : TE) : TS := fun D σ H => tv σ H fun v H1 => td σ H1 fun x H2 => ty σ H2 fun y H3 => ∃ a kvs k b, x = .ref a ∧ DcA K w H3 a kvs ∧ y = .ref b ∧ KyA K H3 b k ∧ kvs.length < sizeLine ∧ D.nx σ (upd H3 a (DcO w a (putG kvs k b v)))
def tGNew (w : World) : TE := fun _ H Q => ∀ p, H p = none → Q (.ref p) (upd H p (DcO w p []))
section
variable {X : Cx} {o i value : Expr} {pos pos' : Pos} {td ty tv : TE}
theorem pe_gget (hu : X.A.units + 8 < cLine) (ho : PE X o td) (hi : PE X i ty) (hs : NoSl i) : PE X (.Subscript o i pos) (tGGet X.K X.w td ty) := by
  constructor
  intro pins s σ H Q I h
  refine subD_of PySem.F.slot_dict_getitem.lookup hs (thn (ho.run pins s σ H _ I h) ?_)
  rintro u s1 ⟨x, H1, I1, rx, q1⟩
  refine thn (hi.run pins s1 σ H1 _ I1 q1) ?_
  rintro iv s2 ⟨y, H2, I2, ry, a, kvs, k, b, v, rfl, h1, rfl, h2, h3, q⟩
  obtain rfl : u = Value.ref a := rx
  obtain rfl : iv = Value.ref b := ry
  exact ⟨dca_type h1 I2, g_get hu I2 h1 h2 h3 fun z s3 I3 rz => ⟨v, H2, I3, rz, q⟩⟩
theorem pc_gin (hu : X.A.units + 8 < cLine) (hi : PE X i ty) (ho : PE X o td) : PC X .In i o (tGIn X.K X.w false ty td) := by
  constructor
  intro pins s σ H Q I h
  refine thn (hi.run pins s σ H _ I h) ?_
  rintro iv s1 ⟨y, H1, I1, ry, q1⟩
  refine thn (ho.run pins s1 σ H1 _ I1 q1) ?_
  rintro u s2 ⟨x, H2, I2, rx, a, kvs, k, b, rfl, h1, rfl, h2, q⟩
  obtain rfl : u = Value.ref a := rx
  obtain rfl : iv = Value.ref b := ry
  rw [Bool.false_bne] at q
  exact g_in hu I2 h1 h2 fun s3 I3 => ⟨.bl _, H2, I3, rfl, q⟩
theorem pc_gnin (hu : X.A.units + 8 < cLine) (hi : PE X i ty) (ho : PE X o td) : PC X .NotIn i o (tGIn X.K X.w true ty td) := by
  constructor
  intro pins s σ H Q I h
  refine thn (hi.run pins s σ H _ I h) ?_
  rintro iv s1 ⟨y, H1, I1, ry, q1⟩
  refine thn (ho.run pins s1 σ H1 _ I1 q1) ?_
  rintro u s2 ⟨x, H2, I2, rx, a, kvs, k, b, rfl, h1, rfl, h2, q⟩
  obtain rfl : u = Value.ref a := rx
  obtain rfl : iv = Value.ref b := ry
  rw [Bool.true_bne] at q
  exact g_notIn hu I2 h1 h2 fun s3 I3 => ⟨.bl _, H2, I3, rfl, q⟩
theorem ps_gput (hu : X.A.units + 8 < cLine) (ho : PE X o td) (hi : PE X i ty) (hv : PE X value tv) (hs : swapsWith value (some (.Subscript o i pos')) pos.line X.env = pure false) : PS X (.Assign [.Subscript o i pos'] value pos) (sGPut X.K X.w td ty tv) := by
  constructor
  intro pins s σ H D I h
  refine wpAny_Assign_Subscript (thn (hv.run pins s σ H _ I h) ?_) hs
  rintro r s1 ⟨v, H1, I1, rv, q1⟩
  refine thn (ho.run pins s1 σ H1 _ I1 q1) ?_
  rintro u s2 ⟨x, H2, I2, rx, q2⟩
  refine thn (hi.run pins s2 σ H2 _ I2 q2) ?_
  rintro iv s3 ⟨y, H3, I3, ry, a, kvs, k, b, rfl, h1, rfl, h2, hl, q⟩
  obtain rfl : u = Value.ref a := rx
  obtain rfl : iv = Value.ref b := ry
  exact g_put hu I3 h1 h2 rv hl fun s4 I4 => ⟨σ, _, I4, q⟩
theorem pe_gnew : PE X (.Dict [] [] pos) (tGNew X.w) := by
  constructor
  intro pins s σ H Q I h
  refine wpAny_Dict_empty ⟨.ref s.heap.objs.size, _, I.laid (t' := s.toks) (a := s.heap.objs.size) (o := DcO X.w s.heap.objs.size []) (fun _ _ q => Heap.get?_push_of_some _ q) (Nat.le_refl _) (dcO_stay ⟨Nat.zero_le _, ?_, [], .nil, _, #[], 0, Heap.get?_push_size _ rfl, ⟨rfl, rfl, rfl⟩, rfl, rfl, List.nodup_nil⟩), rfl, h _ (I.hok.fresh (Nat.le_refl _))⟩
  exact beq_eq_false_iff_ne.mpr (Nat.ne_of_gt I.big)
end
end Mr

set_option Elab.async false
set_option linter.all false
set_option maxRecDepth 100000
set_option maxHeartbeats 2000000
/-! DctS: sorted(d) of such a dict; dict(pairs). -/
namespace Mr
open PySem PySem.Spec PyProof.Rows L2
def rSortG (K : PySem.W.Frag) (w : World) : List V → Hp → VK → Prop := fun vs H Q => ∃ (α : Type) (r : R α) (G : Hp) (k : α → PyData) (a : Addr) (kvs : List Ent) (bs : List α), vs = [V.ref a] ∧ DcA K w H a kvs ∧ Al r G (kvs.map fun p => V.ref p.2.1) bs ∧
  (∀ v b, r.rel G v b → Dp K H v (k b)) ∧ PySem.W.AllAlike (bs.map k) ∧ PySem.W.Sortable (bs.map k) ∧ (∀ b, (k b).depth ≤ 60) ∧ ∀ ys p, Al r G ys (bs.mergeSort (PySem.W.dataLe false k)) → H p = none → Q (.ref p) (upd H p (.lst ys))
theorem keys_val1 {p : Ent} {x : TK × Addr × Value} (r : p.1 = x.1 ∧ p.2.1 = x.2.1 ∧ RelV p.2.2 x.2.2) : RelV (V.ref p.2.1) (Value.ref x.2.1) := by
  rw [r.2.1]; rfl
theorem keys_vals : ∀ {kvs : List Ent} {xs : List (TK × Addr × Value)}, EntR kvs xs → Vals (kvs.map fun p => V.ref p.2.1) (xs.map fun x => Value.ref x.2.1)
  | _, _, .nil => .nil
  | _, _, .cons r t => .cons (keys_val1 r) (keys_vals t)
theorem keys_got {knd : List (TK × Addr × Value)} {es : Array DictEntry} {acc : Array Value} {f : TK × Addr × Value → DictEntry} (hf : ∀ x, (f x).key = .ref x.2.1) (he : es.toList = knd.map f) (hn : acc.size = es.size) (h : ∀ (j : Nat) (v : Value), acc[j]? = some v → ∃ en : DictEntry, es[j]? = some en ∧ v = en.key) :
    acc.toList = knd.map fun x => Value.ref x.2.1 := by
  have hl : es.size = knd.length := by rw [← Array.length_toList, he, List.length_map]
  apply List.ext_getElem?
  intro j
  rw [List.getElem?_map, Array.getElem?_toList]
  cases e : acc[j]? with
  | none =>
    have h1 := Array.getElem?_eq_none_iff.mp e
    rw [List.getElem?_eq_none (by omega)]; rfl
  | some v =>
    obtain ⟨en, h1, h2⟩ := h j v e
    rw [← Array.getElem?_toList, he, List.getElem?_map] at h1
    cases e2 : knd[j]? with
    | none => rw [e2] at h1; cases h1
    | some x =>
      rw [e2] at h1
      have h1 : f x = en := Option.some.inj h1
      rw [h2, ← h1, hf]; rfl
theorem call_sortedG {X : Cx} {k0 : Nat} (hr : Room k0 X.A) (hcalm : X.calm = true) : CallR X (.builtin "sorted") (rSortG X.K X.w) := by
  intro pins s σ H vs us Q I r h
  obtain ⟨α, rr, G, k, a, kvs, bs, rfl, ha, hal, hd, hali, hso, hdep, q⟩ := h
  obtain ⟨u, rfl, ru⟩ := vals1 r
  obtain rfl : u = Value.ref a := ru
  obtain ⟨z, l, xs, rx, o, es, ep, g, c1, c2, c3, _, c5⟩ := ha.of I
  have hu := hr.units
  have l1 : es.size = xs.length := by rw [← Array.length_toList, c3, List.length_map]
  have l2 := entR_len rx
  have l3 := hal.len
  rw [List.length_map] at l3
  refine Calls.call_function_entry (PyProof.Rows.kind_sorted) (PyProof.Rows.plain_sorted) (PyProof.Rows.entry_sorted) (PyProof.Rows.args_sorted1 _) ?_
  unfold Builtin.«sorted»
  refine wpAny_bind (m := checkCount "sorted" 1 1 _) (wpAny_pure ?_)
  refine wpAny_bind (PySem.W.kdu_collect (A := X.A.in1) (kdl_raw l c1 c2) (I.ok.hd hcalm) g (by omega) ?_)
  intro h' tk acc hk hacc
  have ea := keys_got (f := entryOfKey (treeKind X.prog X.w)) (fun _ => rfl) c3 hacc.1 hacc.2
  have rv : Vals (kvs.map fun p => V.ref p.2.1) acc.toList := by rw [ea]; exact keys_vals rx
  have I1 : Inv X pins σ H { s with heap := h', toks := tk } := I.kept hk
  have hlen : acc.toList.length = bs.length := by rw [← rv.length, List.length_map]; exact l3
  refine wpAny_bind (wpAny_newList ?_ (by rw [hlen]; omega))
  have hoL : (h'.push (seqObj "list" acc.toList.toArray 0)).get? h'.objs.size = some (seqObj "list" acc.toList.toArray 0) := Heap.get?_push_size _ rfl
  show wpAny _ _ _ _ _ { s with heap := h'.push (seqObj "list" acc.toList.toArray 0), toks := tk }
  have e1 := each_al rv hal
  have e2 : PySem.W.EachIs (fun u b => ∃ as, Reads (h'.push (seqObj "list" acc.toList.toArray 0)) u (k b) as ∧ h'.objs.size ∉ as) acc.toList bs := e1.mono fun u b ⟨v, h1, h2⟩ => by
    obtain ⟨as, ra⟩ := Dp.reads I1 (k b) v u (hd v b h2) h1
    refine ⟨as, PyProof.Rows.Reads.keeps (fun _ _ e => Heap.get?_push_of_some _ e) ra, fun hm => ?_⟩
    obtain ⟨o', ho⟩ := PyProof.On.reads_mem_get ra _ hm
    exact absurd (Heap.lt_size ho) (Nat.lt_irrefl _)
  refine wpAny_bind (wpAny_holding (PySem.W.list_sort_data (s := { s with heap := h'.push (seqObj "list" acc.toList.toArray 0), toks := tk }) hoL e1 e2 hali hso (by omega) (fun b _ => ?_) ?_))
  · have := hdep b
    show X.A.units + 1 + 1 + (k b).depth < cLine
    omega
  intro out hol ho
  obtain ⟨ys, h3, h4⟩ := al_each ho
  obtain ⟨c, hc⟩ := PyProof.Rows.sortedHeap_at (vs := acc.toList) (out := out.toArray) hoL
  have hp := I1.hok.fresh (Nat.le_refl h'.objs.size)
  refine wpAny_pure ⟨_, rfl, .ref h'.objs.size, upd H h'.objs.size (.lst ys), I1.laid (t' := tk) (fun b o e => ?_) (Nat.le_refl _) ⟨?_, out, c, h3, hc⟩, rfl, q ys _ h4 hp⟩
  · have hb := Heap.lt_size e
    rw [PyProof.Rows.sortedHeap_old (Nat.ne_of_lt hb) (by rw [size_push']; exact Nat.lt_succ_of_lt hb)]
    exact Heap.get?_push_of_some _ e
  · rw [h3.length, hol]; omega
end Mr

set_option linter.all false
/-! DctP: dicts whose keys are tuples, the plain part; < of data; equality of data with texts in it. -/
namespace Mr
open PySem
section
variable {κ β : Type} [DecidableEq κ]
def getD2 (xs : List (κ × β)) (k : κ) : Option β := (xs.find? fun p => decide (p.1 = k)).map (·.2)
def hasD (xs : List (κ × β)) (k : κ) : Bool := (getD2 xs k).isSome
def putD (xs : List (κ × β)) (k : κ) (v : β) : List (κ × β) := if hasD xs k = true then xs.map (fun p => if p.1 = k then (p.1, v) else p) else xs ++ [(k, v)]
def putDM (xs : List (κ × β)) (k : κ) (v : β) : Option (List (κ × β)) := if xs.length < 100000 then some (putD xs k v) else none
def ofD (ps : List (κ × β)) : List (κ × β) := ps.foldl (fun acc p => putD acc p.1 p.2) []
def ofDM (ps : List (κ × β)) : Option (List (κ × β)) := if ps.length < 100000 then some (ofD ps) else none
end
def okW (w : Wrd) : Bool := PyData.strOk (e_T w)
def okON {α : Type} (f : α → Bool) : Option α → Bool
  | none => true
  | some y => f y
/-- x if it may be asked so -/
def ifM {α : Type} (b : Bool) (x : α) : Option α := if b = true then some x else none
theorem ifM_some {α : Type} {b : Bool} {x y : α} (h : ifM b x = some y) : b = true ∧ x = y := by
  unfold ifM at h
  split at h
  · rename_i c; exact ⟨c, Option.some.inj h⟩
  · cases h
/-- behind xs.append(None), of which xs[:-1] is asked -/
def appX {α : Type} (xs : List α) : Option (List α) := if xs.length < 100000 then some xs else none
def ltD (x y : PyData) : Bool := PySem.W.dataLt x y
end Mr

set_option Elab.async false
set_option linter.all false
set_option maxRecDepth 100000
set_option maxHeartbeats 2000000
/-! DctT: tuples of one place; t + (x,); t[:m]; tuples as keys (printed by wip/gen/tupx.py). -/
namespace Mr
open PySem PySem.Spec PyProof.Rows L2
section
variable {α : Type} {K : PySem.W.Frag} {G H : Hp} {O : Own} {v : V} {Q : VK}
def rP1 (K : PySem.W.Frag) (r0 : R α) : R (α) := ⟨fun G v x => ∃ p v0, v = .ref p ∧ SqT K G p [v0] ∧ r0.rel G v0 x, fun e ⟨p, v0, hv, hs, h0⟩ => ⟨p, v0, hv, sqT_up e hs, r0.mono e h0⟩⟩
theorem q_tup1 {r0 : R α} {v0 : V} {x0 : α} (S : Sub G O H) (h0 : r0.rel G v0 x0) (q : ∀ u G' H', Ext G G' → Sub G' O H' → (rP1 K r0).rel G' u (x0) → Q u H') : mkTup [v0] H Q :=
  ⟨sz (by show 1 ≤ 100000; decide), fun p hp => q _ _ _ (S.extNew hp _) (S.new hp) ⟨p, v0, rfl, .inl (.inl upd_same), r0.mono (S.extNew hp _) h0⟩⟩
theorem q_p1_0 {r0 : R α} {y : α} (S : Sub G O H) (h : (rP1 K r0).rel G v y) (q : ∀ w, r0.rel G w y → Q w H) : rIxT K v (.int 0) H Q := by
  obtain ⟨p, v0, rfl, hs, h0⟩ := h
  exact ⟨p, _, 0, v0, rfl, rfl, sqT_up S.ext hs, rfl, q v0 h0⟩
theorem q_len1 {r0 : R α} {y : α} (S : Sub G O H) (h : (rP1 K r0).rel G v y) (q : Q (.int 1) H) : rLenM K [v] H Q := by
  obtain ⟨p, v0, rfl, hs, _⟩ := h
  exact ⟨p, _, rfl, .inr (sqT_up S.ext hs), q⟩
theorem ty_P1 {r0 : R α} {y : α} (h : (rP1 K r0).rel H v y) : TyX K H v (.type "tuple") := by
  obtain ⟨p, v0, rfl, hs, _⟩ := h
  exact ty_sqT hs
theorem q_gt1 {r0 : R α} {y : α} {σ : L2.St} {i0 : Nat} {QS : L2.St → Hp → Prop} (S : Sub G O H) (h : (rP1 K r0).rel G v y) (q : ∀ v0, r0.rel G v0 y → QS (σ.set i0 (some v0)) H) : gTup K 1 (gCons (gName i0) gNil) v σ H QS := by
  obtain ⟨p, v0, rfl, hs, h0⟩ := h
  exact ⟨p, _, rfl, sqT_up S.ext hs, rfl, _, _, rfl, rfl, q v0 h0⟩
variable [DecidableEq α]
def dP1 (d0 : RD K α) : RD K (α) := ⟨rP1 K d0.r, fun x => .tuple [d0.enc x], d0.dep + 1, fun x => d0.ok x,
  fun x h => by
    show (PyData.canLay0 _ && (true)) = true
    rw [d0.lay _ h]; rfl,
  fun x => by
    have := d0.dpt x
    simp only [PyData.depth, PyData.depthAll]; omega,
  fun {H v x} h => by
    obtain ⟨p, v0, rfl, hs, h0⟩ := h
    exact .tup hs (.cons (d0.dp h0) (.nil)),
  fun x y => by
    show (PyData.eqv _ _ && true) = _
    rw [d0.eqv, Bool.and_true]⟩
theorem okP1 {d0 : RD K α} (h0 : ∀ x, d0.ok x = true) : ∀ x, (dP1 d0).ok x = true := fun x => by
  show (d0.ok x) = true
  rw [h0]
end

section
variable {α : Type} {β : Type} {K : PySem.W.Frag} {G H : Hp} {O : Own} {v w : V} {Q : VK}
theorem q_catP1 {r0 : R α} {r1 : R β} {x : α} {y : β} (S : Sub G O H) (h : (rP1 K r0).rel G v x) (k : (rP1 K r1).rel G w y) (q : ∀ u G' H', Ext G G' → Sub G' O H' → (rP2 K r0 r1).rel G' u (x, y) → Q u H') : rCatT K v w H Q := by
  obtain ⟨p, v0, rfl, s1, h0⟩ := h
  obtain ⟨p2, u0, rfl, s2, k0⟩ := k
  refine ⟨p, p2, _, _, rfl, rfl, sqT_up S.ext s1, sqT_up S.ext s2, (by intro z; cases z), sz (by show 2 ≤ 100000; decide), (fun z => by cases z), fun _ p3 hp => ?_⟩
  exact q _ _ _ (S.extNew hp _) (S.new hp) ⟨p3, v0, u0, rfl, .inl (.inl upd_same), R.mono _ (S.extNew hp _) h0, R.mono _ (S.extNew hp _) k0⟩
end
section
variable {α : Type} {β : Type} {γ : Type} {K : PySem.W.Frag} {G H : Hp} {O : Own} {v w : V} {Q : VK}
theorem q_catP2 {r0 : R α} {r1 : R β} {r2 : R γ} {x : α × β} {y : γ} (S : Sub G O H) (h : (rP2 K r0 r1).rel G v x) (k : (rP1 K r2).rel G w y) (q : ∀ u G' H', Ext G G' → Sub G' O H' → (rP3 K r0 r1 r2).rel G' u (x.1, x.2, y) → Q u H') : rCatT K v w H Q := by
  obtain ⟨p, v0, v1, rfl, s1, h0, h1⟩ := h
  obtain ⟨p2, u0, rfl, s2, k0⟩ := k
  refine ⟨p, p2, _, _, rfl, rfl, sqT_up S.ext s1, sqT_up S.ext s2, (by intro z; cases z), sz (by show 3 ≤ 100000; decide), (fun z => by cases z), fun _ p3 hp => ?_⟩
  exact q _ _ _ (S.extNew hp _) (S.new hp) ⟨p3, v0, v1, u0, rfl, .inl (.inl upd_same), R.mono _ (S.extNew hp _) h0, R.mono _ (S.extNew hp _) h1, R.mono _ (S.extNew hp _) k0⟩
end
section
variable {α : Type} {β : Type} {γ : Type} {δ : Type} {K : PySem.W.Frag} {G H : Hp} {O : Own} {v w : V} {Q : VK}
theorem q_catP3 {r0 : R α} {r1 : R β} {r2 : R γ} {r3 : R δ} {x : α × β × γ} {y : δ} (S : Sub G O H) (h : (rP3 K r0 r1 r2).rel G v x) (k : (rP1 K r3).rel G w y) (q : ∀ u G' H', Ext G G' → Sub G' O H' → (rP4 K r0 r1 r2 r3).rel G' u (x.1, x.2.1, x.2.2, y) → Q u H') : rCatT K v w H Q := by
  obtain ⟨p, v0, v1, v2, rfl, s1, h0, h1, h2⟩ := h
  obtain ⟨p2, u0, rfl, s2, k0⟩ := k
  refine ⟨p, p2, _, _, rfl, rfl, sqT_up S.ext s1, sqT_up S.ext s2, (by intro z; cases z), sz (by show 4 ≤ 100000; decide), (fun z => by cases z), fun _ p3 hp => ?_⟩
  exact q _ _ _ (S.extNew hp _) (S.new hp) ⟨p3, v0, v1, v2, u0, rfl, .inl (.inl upd_same), R.mono _ (S.extNew hp _) h0, R.mono _ (S.extNew hp _) h1, R.mono _ (S.extNew hp _) h2, R.mono _ (S.extNew hp _) k0⟩
end
section
variable {α : Type} {β : Type} {γ : Type} {δ : Type} {ε : Type} {K : PySem.W.Frag} {G H : Hp} {O : Own} {v w : V} {Q : VK}
theorem q_catP4 {r0 : R α} {r1 : R β} {r2 : R γ} {r3 : R δ} {r4 : R ε} {x : α × β × γ × δ} {y : ε} (S : Sub G O H) (h : (rP4 K r0 r1 r2 r3).rel G v x) (k : (rP1 K r4).rel G w y) (q : ∀ u G' H', Ext G G' → Sub G' O H' → (rP5 K r0 r1 r2 r3 r4).rel G' u (x.1, x.2.1, x.2.2.1, x.2.2.2, y) → Q u H') : rCatT K v w H Q := by
  obtain ⟨p, v0, v1, v2, v3, rfl, s1, h0, h1, h2, h3⟩ := h
  obtain ⟨p2, u0, rfl, s2, k0⟩ := k
  refine ⟨p, p2, _, _, rfl, rfl, sqT_up S.ext s1, sqT_up S.ext s2, (by intro z; cases z), sz (by show 5 ≤ 100000; decide), (fun z => by cases z), fun _ p3 hp => ?_⟩
  exact q _ _ _ (S.extNew hp _) (S.new hp) ⟨p3, v0, v1, v2, v3, u0, rfl, .inl (.inl upd_same), R.mono _ (S.extNew hp _) h0, R.mono _ (S.extNew hp _) h1, R.mono _ (S.extNew hp _) h2, R.mono _ (S.extNew hp _) h3, R.mono _ (S.extNew hp _) k0⟩
end
section
variable {α : Type} {β : Type} {γ : Type} {K : PySem.W.Frag} {G H : Hp} {O : Own} {v w : V} {Q : VK}
theorem q_slP3_2 {r0 : R α} {r1 : R β} {r2 : R γ} {x : α × β × γ} (S : Sub G O H) (h : (rP3 K r0 r1 r2).rel G v x) (q : ∀ u G' H', Ext G G' → Sub G' O H' → (rP2 K r0 r1).rel G' u (x.1, x.2.1) → Q u H') : rSlT K v none (some 2) H Q := by
  obtain ⟨p, v0, v1, v2, rfl, s1, h0, h1, h2⟩ := h
  refine ⟨p, _, rfl, sqT_up S.ext s1, (by show ¬ ((0 : Nat) = 0 ∧ (2 : Nat) = 3); decide), fun p3 hp => ?_⟩
  exact q _ _ _ (S.extNew hp _) (S.new hp) ⟨p3, v0, v1, rfl, .inl (.inl upd_same), R.mono _ (S.extNew hp _) h0, R.mono _ (S.extNew hp _) h1⟩
end
section
variable {α : Type} {β : Type} {γ : Type} {δ : Type} {K : PySem.W.Frag} {G H : Hp} {O : Own} {v w : V} {Q : VK}
theorem q_slP4_3 {r0 : R α} {r1 : R β} {r2 : R γ} {r3 : R δ} {x : α × β × γ × δ} (S : Sub G O H) (h : (rP4 K r0 r1 r2 r3).rel G v x) (q : ∀ u G' H', Ext G G' → Sub G' O H' → (rP3 K r0 r1 r2).rel G' u (x.1, x.2.1, x.2.2.1) → Q u H') : rSlT K v none (some 3) H Q := by
  obtain ⟨p, v0, v1, v2, v3, rfl, s1, h0, h1, h2, h3⟩ := h
  refine ⟨p, _, rfl, sqT_up S.ext s1, (by show ¬ ((0 : Nat) = 0 ∧ (3 : Nat) = 4); decide), fun p3 hp => ?_⟩
  exact q _ _ _ (S.extNew hp _) (S.new hp) ⟨p3, v0, v1, v2, rfl, .inl (.inl upd_same), R.mono _ (S.extNew hp _) h0, R.mono _ (S.extNew hp _) h1, R.mono _ (S.extNew hp _) h2⟩
end
section
variable {α : Type} {β : Type} {γ : Type} {δ : Type} {ε : Type} {K : PySem.W.Frag} {G H : Hp} {O : Own} {v w : V} {Q : VK}
theorem q_slP5_4 {r0 : R α} {r1 : R β} {r2 : R γ} {r3 : R δ} {r4 : R ε} {x : α × β × γ × δ × ε} (S : Sub G O H) (h : (rP5 K r0 r1 r2 r3 r4).rel G v x) (q : ∀ u G' H', Ext G G' → Sub G' O H' → (rP4 K r0 r1 r2 r3).rel G' u (x.1, x.2.1, x.2.2.1, x.2.2.2.1) → Q u H') : rSlT K v none (some 4) H Q := by
  obtain ⟨p, v0, v1, v2, v3, v4, rfl, s1, h0, h1, h2, h3, h4⟩ := h
  refine ⟨p, _, rfl, sqT_up S.ext s1, (by show ¬ ((0 : Nat) = 0 ∧ (4 : Nat) = 5); decide), fun p3 hp => ?_⟩
  exact q _ _ _ (S.extNew hp _) (S.new hp) ⟨p3, v0, v1, v2, v3, rfl, .inl (.inl upd_same), R.mono _ (S.extNew hp _) h0, R.mono _ (S.extNew hp _) h1, R.mono _ (S.extNew hp _) h2, R.mono _ (S.extNew hp _) h3⟩
end
section
variable {α : Type} {β : Type} {γ : Type} {δ : Type} {K : PySem.W.Frag} {G H : Hp} {O : Own} {v w : V} {Q : VK}
theorem q_slP4_2 {r0 : R α} {r1 : R β} {r2 : R γ} {r3 : R δ} {x : α × β × γ × δ} (S : Sub G O H) (h : (rP4 K r0 r1 r2 r3).rel G v x) (q : ∀ u G' H', Ext G G' → Sub G' O H' → (rP2 K r0 r1).rel G' u (x.1, x.2.1) → Q u H') : rSlT K v none (some 2) H Q := by
  obtain ⟨p, v0, v1, v2, v3, rfl, s1, h0, h1, h2, h3⟩ := h
  refine ⟨p, _, rfl, sqT_up S.ext s1, (by show ¬ ((0 : Nat) = 0 ∧ (2 : Nat) = 4); decide), fun p3 hp => ?_⟩
  exact q _ _ _ (S.extNew hp _) (S.new hp) ⟨p3, v0, v1, rfl, .inl (.inl upd_same), R.mono _ (S.extNew hp _) h0, R.mono _ (S.extNew hp _) h1⟩
end
section
variable {α : Type} {β : Type} {γ : Type} {δ : Type} {ε : Type} {K : PySem.W.Frag} {G H : Hp} {O : Own} {v w : V} {Q : VK}
theorem q_slP5_3 {r0 : R α} {r1 : R β} {r2 : R γ} {r3 : R δ} {r4 : R ε} {x : α × β × γ × δ × ε} (S : Sub G O H) (h : (rP5 K r0 r1 r2 r3 r4).rel G v x) (q : ∀ u G' H', Ext G G' → Sub G' O H' → (rP3 K r0 r1 r2).rel G' u (x.1, x.2.1, x.2.2.1) → Q u H') : rSlT K v none (some 3) H Q := by
  obtain ⟨p, v0, v1, v2, v3, v4, rfl, s1, h0, h1, h2, h3, h4⟩ := h
  refine ⟨p, _, rfl, sqT_up S.ext s1, (by show ¬ ((0 : Nat) = 0 ∧ (3 : Nat) = 5); decide), fun p3 hp => ?_⟩
  exact q _ _ _ (S.extNew hp _) (S.new hp) ⟨p3, v0, v1, v2, rfl, .inl (.inl upd_same), R.mono _ (S.extNew hp _) h0, R.mono _ (S.extNew hp _) h1, R.mono _ (S.extNew hp _) h2⟩
end
/-! ### keys -/
structure KeyN (K : PySem.W.Frag) (n : Nat) {κ : Type} (r : R κ) (ke : κ → TK) : Prop where
  kv : ∀ {G : Hp} {v : V} {x : κ}, r.rel G v x → KyV K G n v (ke x)
  inj : ∀ x y, ke x = ke y → x = y
structure KeyR (K : PySem.W.Frag) {κ : Type} (rk : R κ) (kk : κ → TK) : Prop where
  ky : ∀ {G : Hp} {v : V} {x : κ}, rk.rel G v x → ∃ b, v = .ref b ∧ KyA K G b (kk x)
  inj : ∀ x y, kk x = kk y → x = y
theorem ky_R {K : PySem.W.Frag} {κ : Type} {rk : R κ} {kk : κ → TK} (h : KeyN K 7 rk kk) (ht : ∀ x, ∃ l, kk x = .tup l) : KeyR K rk kk where
  ky := fun {G v x} hx => by
    have z := h.kv hx
    obtain ⟨l, e⟩ := ht x
    rw [e] at z
    cases z with
    | tup s t => exact ⟨_, rfl, by rw [e]; exact KyV.tup s t⟩
  inj := h.inj
abbrev kfI (i : Int) : TK := .sc (.inl i)
abbrev kfL (b : Bool) : TK := .sc (.inl (PpSet.b2 b))
abbrev kfT (t : Wrd) : TK := .sc (.inr (e_T t))
abbrev kfE {α : Type} (e : α → Str) (x : α) : TK := .sc (.inr (e x))
def kfO {α : Type} (k : α → TK) : Option α → TK
  | none => .non
  | some x => k x
abbrev kfS {α : Type} (k : α → TK) (xs : List α) : TK := .tup (xs.map k)
section
variable {K : PySem.W.Frag} {n : Nat}
theorem sc_inj {a b : L2.Key} (h : TK.sc a = TK.sc b) : a = b := by cases h; rfl
theorem tup_inj {a b : List TK} (h : TK.tup a = TK.tup b) : a = b := by cases h; rfl
theorem ke_I : KeyN K n rInt kfI := ⟨fun {G v x} h => by cases (show v = .int x from h); exact .sc rfl, fun x y h => Sum.inl.inj (sc_inj h)⟩
theorem ke_L : KeyN K n rBool kfL := ⟨fun {G v x} h => by cases (show v = .bl x from h); exact .sc rfl, fun x y h => by
  have := Sum.inl.inj (sc_inj h)
  cases x <;> cases y <;> first | rfl | (exact absurd this (by decide))⟩
theorem ke_T : KeyN K n rTx kfT := ⟨fun {G v x} h => by cases (show v = .str (e_T x) from h); exact .sc rfl, fun x y h => e_T_inj x y (Sum.inr.inj (sc_inj h))⟩
theorem ke_E {α : Type} {e : α → Str} (hi : ∀ x y, e x = e y → x = y) : KeyN K n (rEn e) (kfE e) := ⟨fun {G v x} h => by cases (show v = .str (e x) from h); exact .sc rfl, fun x y h => hi x y (Sum.inr.inj (sc_inj h))⟩
theorem ke_O {α : Type} {r : R α} {k : α → TK} (h : KeyN K n r k) (hn : ∀ x, k x ≠ .non) : KeyN K n (rO r) (kfO k) where
  kv := fun {G v x} hx => by
    cases x with
    | none => cases (show v = .non from hx); exact .non
    | some y => exact h.kv (show v ≠ .non ∧ r.rel G v y from hx).2
  inj := fun x y e => by
    cases x with
    | none =>
      cases y with
      | none => rfl
      | some z => exact absurd e.symm (hn z)
    | some w =>
      cases y with
      | none => exact absurd e (hn w)
      | some z => rw [h.inj w z e]
theorem kyvs_map {α : Type} {r : R α} {k : α → TK} (h : KeyN K n r k) {G : Hp} : ∀ {vs : List V} {xs : List α}, Al r G vs xs → KyVs K G n vs (xs.map k)
  | [], [], _ => .nil
  | v :: vs, x :: xs, a => .cons (h.kv a.1) (kyvs_map h a.2)
theorem map_inj {α : Type} {k : α → TK} (h : ∀ x y, k x = k y → x = y) : ∀ {xs ys : List α}, xs.map k = ys.map k → xs = ys
  | [], [], _ => rfl
  | x :: xs, y :: ys, e => by
    rw [List.map_cons, List.map_cons] at e
    rw [h x y (List.cons.inj e).1, map_inj h (List.cons.inj e).2]
  | [], _ :: _, e => by simp at e
  | _ :: _, [], e => by simp at e
theorem ke_S {α : Type} {r : R α} {k : α → TK} (h : KeyN K n r k) : KeyN K (n + 1) (rT K r) (kfS k) where
  kv := fun {G v x} ⟨p, vs, hv, hs, ha⟩ => by rw [hv]; exact .tup hs (kyvs_map h ha)
  inj := fun x y e => map_inj h.inj (tup_inj e)
theorem ky_P1 {α : Type} {r0 : R α} {k0 : α → TK} (e0 : KeyN K n r0 k0) : KeyN K (n + 1) (rP1 K r0) (fun x : α => TK.tup [k0 x]) where
  kv := fun {G v x} ⟨p, v0, hv, hs, h0⟩ => by rw [hv]; exact .tup hs (.cons (e0.kv h0) .nil)
  inj := fun x y h => by
    have g0 := tup_inj h
    have z0 := e0.inj _ _ (List.cons.inj g0).1
    have g1 := (List.cons.inj g0).2
    exact z0
theorem ky_P2 {α : Type} {β : Type} {r0 : R α} {r1 : R β} {k0 : α → TK} {k1 : β → TK} (e0 : KeyN K n r0 k0) (e1 : KeyN K n r1 k1) : KeyN K (n + 1) (rP2 K r0 r1) (fun x : α × β => TK.tup [k0 x.1, k1 x.2]) where
  kv := fun {G v x} ⟨p, v0, v1, hv, hs, h0, h1⟩ => by rw [hv]; exact .tup hs (.cons (e0.kv h0) (.cons (e1.kv h1) .nil))
  inj := fun x y h => by
    have g0 := tup_inj h
    have z0 := e0.inj _ _ (List.cons.inj g0).1
    have g1 := (List.cons.inj g0).2
    have z1 := e1.inj _ _ (List.cons.inj g1).1
    have g2 := (List.cons.inj g1).2
    obtain ⟨a0, a1⟩ := x
    obtain ⟨b0, b1⟩ := y
    dsimp only at z0 z1
    rw [z0, z1]
theorem ky_P3 {α : Type} {β : Type} {γ : Type} {r0 : R α} {r1 : R β} {r2 : R γ} {k0 : α → TK} {k1 : β → TK} {k2 : γ → TK} (e0 : KeyN K n r0 k0) (e1 : KeyN K n r1 k1) (e2 : KeyN K n r2 k2) : KeyN K (n + 1) (rP3 K r0 r1 r2) (fun x : α × β × γ => TK.tup [k0 x.1, k1 x.2.1, k2 x.2.2]) where
  kv := fun {G v x} ⟨p, v0, v1, v2, hv, hs, h0, h1, h2⟩ => by rw [hv]; exact .tup hs (.cons (e0.kv h0) (.cons (e1.kv h1) (.cons (e2.kv h2) .nil)))
  inj := fun x y h => by
    have g0 := tup_inj h
    have z0 := e0.inj _ _ (List.cons.inj g0).1
    have g1 := (List.cons.inj g0).2
    have z1 := e1.inj _ _ (List.cons.inj g1).1
    have g2 := (List.cons.inj g1).2
    have z2 := e2.inj _ _ (List.cons.inj g2).1
    have g3 := (List.cons.inj g2).2
    obtain ⟨a0, a1, a2⟩ := x
    obtain ⟨b0, b1, b2⟩ := y
    dsimp only at z0 z1 z2
    rw [z0, z1, z2]
theorem ky_P4 {α : Type} {β : Type} {γ : Type} {δ : Type} {r0 : R α} {r1 : R β} {r2 : R γ} {r3 : R δ} {k0 : α → TK} {k1 : β → TK} {k2 : γ → TK} {k3 : δ → TK} (e0 : KeyN K n r0 k0) (e1 : KeyN K n r1 k1) (e2 : KeyN K n r2 k2) (e3 : KeyN K n r3 k3) : KeyN K (n + 1) (rP4 K r0 r1 r2 r3) (fun x : α × β × γ × δ => TK.tup [k0 x.1, k1 x.2.1, k2 x.2.2.1, k3 x.2.2.2]) where
  kv := fun {G v x} ⟨p, v0, v1, v2, v3, hv, hs, h0, h1, h2, h3⟩ => by rw [hv]; exact .tup hs (.cons (e0.kv h0) (.cons (e1.kv h1) (.cons (e2.kv h2) (.cons (e3.kv h3) .nil))))
  inj := fun x y h => by
    have g0 := tup_inj h
    have z0 := e0.inj _ _ (List.cons.inj g0).1
    have g1 := (List.cons.inj g0).2
    have z1 := e1.inj _ _ (List.cons.inj g1).1
    have g2 := (List.cons.inj g1).2
    have z2 := e2.inj _ _ (List.cons.inj g2).1
    have g3 := (List.cons.inj g2).2
    have z3 := e3.inj _ _ (List.cons.inj g3).1
    have g4 := (List.cons.inj g3).2
    obtain ⟨a0, a1, a2, a3⟩ := x
    obtain ⟨b0, b1, b2, b3⟩ := y
    dsimp only at z0 z1 z2 z3
    rw [z0, z1, z2, z3]
theorem ky_P5 {α : Type} {β : Type} {γ : Type} {δ : Type} {ε : Type} {r0 : R α} {r1 : R β} {r2 : R γ} {r3 : R δ} {r4 : R ε} {k0 : α → TK} {k1 : β → TK} {k2 : γ → TK} {k3 : δ → TK} {k4 : ε → TK} (e0 : KeyN K n r0 k0) (e1 : KeyN K n r1 k1) (e2 : KeyN K n r2 k2) (e3 : KeyN K n r3 k3) (e4 : KeyN K n r4 k4) : KeyN K (n + 1) (rP5 K r0 r1 r2 r3 r4) (fun x : α × β × γ × δ × ε => TK.tup [k0 x.1, k1 x.2.1, k2 x.2.2.1, k3 x.2.2.2.1, k4 x.2.2.2.2]) where
  kv := fun {G v x} ⟨p, v0, v1, v2, v3, v4, hv, hs, h0, h1, h2, h3, h4⟩ => by rw [hv]; exact .tup hs (.cons (e0.kv h0) (.cons (e1.kv h1) (.cons (e2.kv h2) (.cons (e3.kv h3) (.cons (e4.kv h4) .nil)))))
  inj := fun x y h => by
    have g0 := tup_inj h
    have z0 := e0.inj _ _ (List.cons.inj g0).1
    have g1 := (List.cons.inj g0).2
    have z1 := e1.inj _ _ (List.cons.inj g1).1
    have g2 := (List.cons.inj g1).2
    have z2 := e2.inj _ _ (List.cons.inj g2).1
    have g3 := (List.cons.inj g2).2
    have z3 := e3.inj _ _ (List.cons.inj g3).1
    have g4 := (List.cons.inj g3).2
    have z4 := e4.inj _ _ (List.cons.inj g4).1
    have g5 := (List.cons.inj g4).2
    obtain ⟨a0, a1, a2, a3, a4⟩ := x
    obtain ⟨b0, b1, b2, b3, b4⟩ := y
    dsimp only at z0 z1 z2 z3 z4
    rw [z0, z1, z2, z3, z4]
theorem ky_P6 {α : Type} {β : Type} {γ : Type} {δ : Type} {ε : Type} {ζ : Type} {r0 : R α} {r1 : R β} {r2 : R γ} {r3 : R δ} {r4 : R ε} {r5 : R ζ} {k0 : α → TK} {k1 : β → TK} {k2 : γ → TK} {k3 : δ → TK} {k4 : ε → TK} {k5 : ζ → TK} (e0 : KeyN K n r0 k0) (e1 : KeyN K n r1 k1) (e2 : KeyN K n r2 k2) (e3 : KeyN K n r3 k3) (e4 : KeyN K n r4 k4) (e5 : KeyN K n r5 k5) : KeyN K (n + 1) (rP6 K r0 r1 r2 r3 r4 r5) (fun x : α × β × γ × δ × ε × ζ => TK.tup [k0 x.1, k1 x.2.1, k2 x.2.2.1, k3 x.2.2.2.1, k4 x.2.2.2.2.1, k5 x.2.2.2.2.2]) where
  kv := fun {G v x} ⟨p, v0, v1, v2, v3, v4, v5, hv, hs, h0, h1, h2, h3, h4, h5⟩ => by rw [hv]; exact .tup hs (.cons (e0.kv h0) (.cons (e1.kv h1) (.cons (e2.kv h2) (.cons (e3.kv h3) (.cons (e4.kv h4) (.cons (e5.kv h5) .nil))))))
  inj := fun x y h => by
    have g0 := tup_inj h
    have z0 := e0.inj _ _ (List.cons.inj g0).1
    have g1 := (List.cons.inj g0).2
    have z1 := e1.inj _ _ (List.cons.inj g1).1
    have g2 := (List.cons.inj g1).2
    have z2 := e2.inj _ _ (List.cons.inj g2).1
    have g3 := (List.cons.inj g2).2
    have z3 := e3.inj _ _ (List.cons.inj g3).1
    have g4 := (List.cons.inj g3).2
    have z4 := e4.inj _ _ (List.cons.inj g4).1
    have g5 := (List.cons.inj g4).2
    have z5 := e5.inj _ _ (List.cons.inj g5).1
    have g6 := (List.cons.inj g5).2
    obtain ⟨a0, a1, a2, a3, a4, a5⟩ := x
    obtain ⟨b0, b1, b2, b3, b4, b5⟩ := y
    dsimp only at z0 z1 z2 z3 z4 z5
    rw [z0, z1, z2, z3, z4, z5]
end
end Mr

set_option Elab.async false
set_option linter.all false
set_option maxRecDepth 100000
/-! KwP: calls with some of the keyword-only parameters written, no other defaults. -/
namespace L2
open PySem PySem.Spec PyProof.Rows
section
variable {K : PySem.W.Frag} {x qual : Str} {params : Arguments} {body : List Stmt} {scope : Scope} {kws : List (Str × V)} {f : Addr} {fd : FuncData} {ps : List Str}
theorem kbn_mix (F : FunD K x qual params body scope [] kws f fd) (n : Nat) (ks : List Str) (ms : List (Str × V)) (hk : kws ≠ []) (hms : ∀ q ∈ ms, q ∈ kws) (pre : Bool)
    (h : ∀ (D : Addr) (doc pm : Value) (an : Option Addr) (cdv ct : Value) (us mv ws : List Value), us.length = n → mv.length = ms.length → ws.length = ks.length →
      KwChain D ((ms.map (·.1)).zip mv) (bindArgs (PySem.W.fnOf x qual params body scope .none (.ref D) doc pm an cdv ct) ⟨us, ks.zip ws⟩) (ps.zip (us ++ (cond pre (mv ++ ws) (ws ++ mv))))) :
    ∃ mv : List Value, KBn K fd ps n ks (fun us ws => us ++ (cond pre (mv ++ ws) (ws ++ mv))) (fun vs zs => vs ++ (cond pre (ms.map (·.2) ++ zs) (zs ++ ms.map (·.2)))) := by
  obtain ⟨oc, od, dV, kV, doc, pm, an, cdv, ct, osl, rfl, lk, hcd, hD, hK⟩ := F.ex
  rcases hD with ⟨_, rfl⟩ | ⟨e, _⟩
  · rcases hK with e | ⟨D, rfl, hq⟩
    · exact absurd e hk
    · obtain ⟨mv, hl, rk, hks⟩ := kwd_vals (ms := ms) fun q hm => hq q (hms q hm)
      refine ⟨mv, ⟨fun s us ws X l1 l2 => BindsTo.of_looks fun M => KwChain.looks X hks (h D doc pm an cdv ct us mv ws l1 hl l2), fun r1 r2 => r1.append ?_⟩⟩
      cases pre with
      | true => exact rk.append r2
      | false => exact r2.append rk
  · exact absurd rfl e
theorem kbn_full (F : FunD K x qual params body scope [] kws f fd) (n : Nat) (ks : List Str)
    (h : ∀ (kV doc pm : Value) (an : Option Addr) (cdv ct : Value) (us ws : List Value), us.length = n → ws.length = ks.length → bindArgs (PySem.W.fnOf x qual params body scope .none kV doc pm an cdv ct) ⟨us, ks.zip ws⟩ = pure (ps.zip (us ++ ws))) :
    KBn K fd ps n ks (fun us ws => us ++ ws) (fun vs zs => vs ++ zs) := by
  obtain ⟨oc, od, dV, kV, doc, pm, an, cdv, ct, osl, rfl, lk, hcd, hD, hK⟩ := F.ex
  rcases hD with ⟨_, rfl⟩ | ⟨e, _⟩
  · exact ⟨fun s us ws X l1 l2 => .of_eq (h kV doc pm an cdv ct us ws l1 l2), fun r1 r2 => r1.append r2⟩
  · exact absurd rfl e
end
end L2
namespace Mr
open PySem PySem.Spec PyProof.Rows L2
theorem gCallN {n m : Nat} {sp : Sp} {gV : List V → List V → List V} {E : XK} {t tk : TA} {σ : L2.St} {H : Hp} {Q : VK} (h : t σ H fun vs H1 => tk σ H1 fun zs H2 => vs.length = n ∧ zs.length = m ∧ sp (gV vs zs) H2 Q E) : tCallN n m sp gV E t tk σ H Q := h
end Mr

set_option Elab.async false
set_option linter.all false
set_option maxRecDepth 100000
set_option maxHeartbeats 2000000
/-! LamW: lambdas handed to a def, in worlds: the tables of code objects are owned. -/
namespace Mr
open PySem PySem.Spec PyProof.Rows L2 LamX
/-! ### tables in worlds -/
def TbR (T : List (Addr × Str)) (B : Own) (G : Hp) : Prop := B.map (·.1) = T.map (·.1) ∧ ∀ p ∈ T, ∃ ps : Array Value, (p.1, HO.tbl ps) ∈ B ∧ TriplesOk ps.toList ∧
  ∀ (pos : Pos) (cv : Value), codeAmong pos ps.toList = some cv → ∃ c, cv = .ref c ∧ G c = some (CodeO c p.2)
/-- neither tables nor code objects -/
def NoC (O : Own) : Prop := ∀ p ∈ O, (∀ q, p.2 ≠ CodeO p.1 q) ∧ ∀ ps, p.2 ≠ .tbl ps
theorem NoC.nil : NoC [] := fun _ h => nomatch h
theorem NoC.lst {O : Own} {a : Addr} {w : List V} (h : NoC O) : NoC ((a, .lst w) :: O) := fun p hp => by
  rcases List.mem_cons.mp hp with e | hp
  · subst e
    exact ⟨fun q z => (by unfold CodeO at z; cases z), fun ps z => (by cases z)⟩
  · exact h p hp
theorem NoC.app {A B : Own} (h1 : NoC A) (h2 : NoC B) : NoC (A ++ B) := fun p hp => (List.mem_append.mp hp).elim (h1 p) (h2 p)
theorem NoC.tail {O : Own} {q : Addr × HO} (h : NoC (q :: O)) : NoC O := fun p hp => h p (List.mem_cons_of_mem _ hp)
section
variable {T : List (Addr × Str)} {B E O : Own} {G G' H H1 : Hp}
theorem TbR.up (h : TbR T B G) (e : Ext G G') : TbR T B G' := ⟨h.1, fun p hp => by
  obtain ⟨ps, h1, h2, h3⟩ := h.2 p hp
  refine ⟨ps, h1, h2, fun pos cv hc => ?_⟩
  obtain ⟨c, e1, e2⟩ := h3 pos cv hc
  exact ⟨c, e1, e _ _ e2⟩⟩
theorem TbR.tabs (h : TbR T B G) (S : Sub G (E ++ (B ++ O)) H) : Tabs T H := fun p hp => by
  obtain ⟨ps, h1, h2, h3⟩ := h.2 p hp
  have hm : (p.1, HO.tbl ps) ∈ E ++ (B ++ O) := List.mem_append_right _ (List.mem_append_left _ h1)
  refine ⟨ps, (S.own _ hm).1, h2, fun pos cv hc => ?_⟩
  obtain ⟨c, e1, e2⟩ := h3 pos cv hc
  exact ⟨c, e1, S.ext _ _ e2⟩
theorem TbR.uniq (h : TbR T B G) (S : Sub G (E ++ (B ++ O)) H) {P : Addr} {q : Str} (hm : (P, q) ∈ T) : ∀ p ∈ T, p.1 = P → p.2 = q := fun p hp e => by
  have nd : (T.map (·.1)).Nodup := by
    rw [← h.1]
    have := S.nd
    rw [List.map_append, List.map_append] at this
    exact (List.nodup_append.mp (List.nodup_append.mp this).2.1).1
  obtain ⟨i, hi, e1⟩ := List.mem_iff_getElem.mp hp
  obtain ⟨j, hj, e2⟩ := List.mem_iff_getElem.mp hm
  have h1 : (T.map (·.1))[i]? = (T.map (·.1))[j]? := by
    rw [List.getElem?_map, List.getElem?_map, List.getElem?_eq_getElem hi, List.getElem?_eq_getElem hj, e1, e2]
    show some p.1 = some P
    rw [e]
  have h2 : i = j := (List.getElem?_inj (by rw [List.length_map]; exact hi) nd).mp h1
  subst h2
  rw [← e1, e2]
open Classical in
/-- behind the making of a lambda -/
theorem tab_step (S : Sub G (E ++ (B ++ O)) H) (hB : TbR T B G) (hn : NoC (E ++ O)) (e : ExtN H H1) (t : Tabs T H1) : ∃ G1 B1, Ext G G1 ∧ Sub G1 (E ++ (B1 ++ O)) H1 ∧ TbR T B1 G1 := by
  have mB : ∀ p ∈ B, ∃ q ∈ T, q.1 = p.1 := fun p hp => by
    have h1 : p.1 ∈ B.map (·.1) := List.mem_map.mpr ⟨p, hp, rfl⟩
    rw [hB.1] at h1
    obtain ⟨q, h2, h3⟩ := List.mem_map.mp h1
    exact ⟨q, h2, h3⟩
  have mT : ∀ q ∈ T, ∃ p ∈ B, p.1 = q.1 := fun p hp => by
    have h1 : p.1 ∈ T.map (·.1) := List.mem_map.mpr ⟨p, hp, rfl⟩
    rw [← hB.1] at h1
    obtain ⟨q, h2, h3⟩ := List.mem_map.mp h1
    exact ⟨q, h2, h3⟩
  refine ⟨fun b => if ∃ q, H1 b = some (CodeO b q) then H1 b else G b, B.map fun p => (p.1, (H1 p.1).getD (.tbl #[])), fun b o hb => ?_, ⟨fun b o hb => ?_, fun p hp => ?_, ?_, fun b ps z => ?_⟩, ⟨?_, fun p hp => ?_⟩⟩
  · have h1 : H1 b = some o := e _ _ (S.ext _ _ hb) fun ps z => S.nt b ps (by rw [hb, z])
    by_cases c : ∃ q, H1 b = some (CodeO b q)
    · show (if _ then H1 b else G b) = some o
      rw [if_pos c]; exact h1
    · show (if _ then H1 b else G b) = some o
      rw [if_neg c]; exact hb
  · by_cases c : ∃ q, H1 b = some (CodeO b q)
    · have hb : (if _ then H1 b else G b) = some o := hb
      rw [if_pos c] at hb; exact hb
    · have hb : (if _ then H1 b else G b) = some o := hb
      rw [if_neg c] at hb
      exact e _ _ (S.ext _ _ hb) fun ps z => S.nt b ps (by rw [hb, z])
  · have go : ∀ p : Addr × HO, p ∈ E ++ O → H1 p.1 = some p.2 ∧ (if ∃ q, H1 p.1 = some (CodeO p.1 q) then H1 p.1 else G p.1) = none := fun p hp => by
      have hm : p ∈ E ++ (B ++ O) := (List.mem_append.mp hp).elim (fun z => List.mem_append_left _ z) fun z => List.mem_append_right _ (List.mem_append_right _ z)
      have h1 : H1 p.1 = some p.2 := e _ _ (S.own p hm).1 (hn p hp).2
      refine ⟨h1, ?_⟩
      rw [if_neg fun ⟨q, z⟩ => (hn p hp).1 q (Option.some.inj (h1.symm.trans z))]
      exact (S.own p hm).2
    rcases List.mem_append.mp hp with hp | hp
    · exact go p (List.mem_append_left _ hp)
    · rcases List.mem_append.mp hp with hp | hp
      · obtain ⟨p0, hp0, rfl⟩ := List.mem_map.mp hp
        obtain ⟨q, hq, eq⟩ := mB p0 hp0
        obtain ⟨ps, t1, _, _⟩ := t q hq
        rw [eq] at t1
        refine ⟨by show H1 p0.1 = some ((H1 p0.1).getD _); rw [t1]; rfl, ?_⟩
        show (if ∃ q, H1 p0.1 = some (CodeO p0.1 q) then H1 p0.1 else G p0.1) = none
        rw [if_neg fun ⟨q, z⟩ => (by rw [t1] at z; exact codeO_ne ps (Option.some.inj z).symm)]
        exact (S.own p0 (List.mem_append_right _ (List.mem_append_left _ hp0))).2
      · exact go p (List.mem_append_right _ hp)
  · have h1 : (B.map fun p => (p.1, (H1 p.1).getD (.tbl #[]))).map (·.1) = B.map (·.1) := by rw [List.map_map]; rfl
    have := S.nd
    rw [List.map_append, List.map_append] at this ⊢
    rw [h1]; exact this
  · have z : (if ∃ q, H1 b = some (CodeO b q) then H1 b else G b) = some (.tbl ps) := z
    by_cases c : ∃ q, H1 b = some (CodeO b q)
    · rw [if_pos c] at z
      obtain ⟨q, c⟩ := c
      rw [c] at z
      exact codeO_ne ps (Option.some.inj z)
    · rw [if_neg c] at z; exact S.nt b ps z
  · rw [List.map_map]; exact hB.1
  · obtain ⟨ps, t1, t2, t3⟩ := t p hp
    obtain ⟨b, hb, eb⟩ := mT p hp
    refine ⟨ps, List.mem_map.mpr ⟨b, hb, ?_⟩, t2, fun pos cv hc => ?_⟩
    · rw [eb, t1]; rfl
    · obtain ⟨c, e1, e2⟩ := t3 pos cv hc
      refine ⟨c, e1, ?_⟩
      show (if ∃ q, H1 c = some (CodeO c q) then H1 c else G c) = _
      rw [if_pos ⟨_, e2⟩]; exact e2
end
/-- at the law's begin -/
theorem TbR.start {T : List (Addr × Str)} {G : Hp} : TbR T (T.map fun p => (p.1, HO.tbl #[])) G := ⟨by rw [List.map_map]; rfl, fun p hp => ⟨#[], List.mem_map.mpr ⟨p, hp, rfl⟩, True.intro, fun pos cv hc => by
  have z : codeAmong pos [] = some cv := hc
  simp [codeAmong] at z⟩⟩
/-! ### the code of a def -/
theorem FunD_okC {P : Program} {w : World} {K : PySem.W.Frag} {mg : Str → Option Value} {base : Heap} {x qual : Str} {params : Arguments} {body : List Stmt} {scope : Scope} {dvs : List V} {kws : List (Str × V)} {d : Str × Option Str} {fd : FuncData}
    {CX : CXT} {N ps : List Str} {k : Nat} {sp : Sp} (F : FunD K x qual params body scope dvs kws (He.fAd K d) fd) (S : FnScope N ps scope) (len : ∀ vs H Q E, sp vs H Q E → vs.length = ps.length)
    (hbody : ∀ (A : Around) (outer : List Env) (s : Shared) (H : Hp) (vs : List V) (Q : VK) (E : XK), Room k (A.deeper (envOfC qual scope s.heap.objs.size (He.fAd K d) (.ref (He.codeOf K d)))) → sp vs H Q E →
      ∃ t, PSs (cxOf CX P w K mg base N qual scope (He.fAd K d) (.ref (He.codeOf K d)) A outer s H E) body t ∧ t { nx := fun _ H' => Q .non H', rt := Q } (L2.start N vs) H) : FnOk P w K mg base CX (k + 1) (He.fAd K d) fd ps sp := by
  obtain ⟨oc, od, dV, kV, doc, pm, an, cdv, ct, osl, rfl, lk, hcd, _, _⟩ := F.ex
  obtain ⟨c, rfl⟩ := He.codeIn_ref hcd
  have e : He.codeOf K d = c := He.codeOf_eq lk rfl
  subst e
  exact fn_of lk hcd S len fun A outer s H vs Q E hr hsp => hbody A outer s H vs Q E hr hsp
/-! ### the def that gets the lambda -/
theorem takes_len {X : Cx} {W : WX} (tk : Takes X W) : Takes X (fun cls d σ H => σ.length = X.N.length → W cls d σ H) := fun u s' ⟨a, B, sI, pins, σ, H, cls, d, e, I, nb, up, sky, na, os, ag, w⟩ =>
  tk u s' ⟨a, B, sI, pins, σ, H, cls, d, e, I, nb, up, sky, na, os, ag, w I.len⟩
theorem pe_lamF {X : Cx} {T : List (Addr × Str)} {TT : (XK → Hp → VK → Prop) → Hp → VK → Prop} {x a : Str} {g c P : Addr} {k : Nat} {pg : Arguments} {bg : List Stmt} {sg : Scope} {fd : FuncData} {Ng : List Str} {params : Arguments} {body : Expr} {scope : Scope} {t : XK → TE} {p lpos pos : Pos}
    (F : FunD X.K x x pg bg sg [] [] g fd) (hb : Binds X.K fd [a] []) (hg : Gl X x) (hm : X.mg x = some (.ref g)) (Sg : FnScope Ng [a] sg) (hNg : Ng[0]? = some a) (hva : Vis sg a)
    (hG : ∀ cdg, GivesTo X Ng x sg g cdg bg a (X.env.qual ++ "<lambda>") TT) (TB : TabB X.base X.mg c P) (hcode : X.env.code = .ref c) (hmT : (P, X.env.qual ++ "<lambda>") ∈ T) (hu : ∀ p ∈ T, p.1 = P → p.2 = X.env.qual ++ "<lambda>") (hr : Room (k + 2) X.A)
    (L : LamS X.env.scope scope) (hdef : defaultsOf params X.env = ([], [])) (hbind : ∀ (q : Str) (cl : List (Str × Addr)) (pm cv ctv : Value), bindArgs (PySem.W.kla_fn "<lambda>" q params body scope cl pm cv ctv) ⟨[], []⟩ = pure [])
    (hbody : ∀ (A : Around) (outer : List Env) (s : Shared) (H : Hp) (E : XK) (f c' : Addr), Room k (A.deeper (lamEnv X scope s.heap.objs.size f c')) → PE (lamCx X A outer s H E scope f c') body (t E))
    (hdb : (x == ("__debug__" : Str)) = false := by decide) (hd : (a == ("__debug__" : Str)) = false := by decide) (hcd : (a == ("__classdict__" : Str)) = false := by decide) :
    PE X (.Call (.Name x p) [.Lambda params body scope lpos] [] pos) (tLam T TT t) := by
  obtain ⟨oc, od, dV, kV, doc, pm, an, cdv, ct, osl, rfl, lk, hcg, hD, hK⟩ := F.ex
  exact pe_lamcall hg hm F.kp lk hcg hb Sg hNg hva (hG cdv) TB hcode hmT hu hr L hdef hbind hbody hdb hd hcd
theorem passLam {X : Cx} {A : Around} {outer : List Env} {s : Shared} {H : Hp} {E : XK} {scope : Scope} {f c' : Addr} : Passes (L2.CX X.prog X.w) (lamCx X A outer s H E scope f c') E := passes_call (takes_of rfl rfl rfl rfl) fun _ _ _ _ h => h
theorem gLam {T : List (Addr × Str)} {TT : (XK → Hp → VK → Prop) → Hp → VK → Prop} {t : XK → TE} {σ : L2.St} {H : Hp} {Q : VK} (h : Tabs T H ∧ ∀ H1, ExtN H H1 → Tabs T H1 → TT (fun E H' Q' => t E σ H' Q') H1 Q) : tLam T TT t σ H Q := h
section
variable {G H : Hp} {x : Addr × HO} {E B O : Own}
theorem Sub.bFr0 (S : Sub G (E ++ (B ++ O)) H) : Sub G (B ++ (E ++ O)) H := S.perm (by
  rw [← List.append_assoc, ← List.append_assoc]
  exact List.perm_append_comm.append_right O)
theorem Sub.bBk0 (S : Sub G (B ++ (E ++ O)) H) : Sub G (E ++ (B ++ O)) H := Sub.bFr0 S
theorem Sub.bFr1 (S : Sub G (x :: (E ++ (B ++ O))) H) : Sub G (x :: (B ++ (E ++ O))) H := S.perm (by
  rw [← List.append_assoc, ← List.append_assoc]
  exact List.Perm.cons x (List.perm_append_comm.append_right O))
theorem Sub.bBk1 (S : Sub G (x :: (B ++ (E ++ O))) H) : Sub G (x :: (E ++ (B ++ O))) H := Sub.bFr1 S
end
theorem gSeqTB {t tr : TS} {D : Ends} {σ : L2.St} {H : Hp} (h : t { D with nx := tr D } σ H) : tSeq t tr D σ H := h
theorem gXf {a : Addr} {cls : Value} {d : Option Addr} {C : Addr} {f : Str} {te : TE} {σ : L2.St} {H : Hp} {Q : VK} (h : te σ H fun x H1 => x = .ref a ∧ cls = .ref C ∧ ∃ (dd : Addr) (fs : List (Str × V)) (v : V), d = some dd ∧ H1 dd = some (.xd fs) ∧ fs.lookup f = some v ∧ Q v H1) : tXf a cls d C f te σ H Q := h
theorem call_isG {X : Cx} {a D : Addr} {oe : Obj} {cls : Value} {d : Option Addr} {pn : List (Addr × Obj)} (C : ExcC X.K D) (hz : Zc cls d oe) (hf : ∃ vs, oe.data = .fields vs) : CallR (X.suite a ((a, oe) :: pn)) (.builtin "isinstance") (fun xs H Q => cls = .ref D ∧ rIsF X.K D a d xs H Q) := by
  intro pins s σ H xs us Q I r h
  obtain ⟨rfl, h⟩ := h
  exact call_isF C hz hf pins s σ H xs us Q I r h
theorem len2 {σ : L2.St} (h : σ.length = 2) : ∃ a b, σ = [a, b] := by
  match σ, h with
  | [a, b], _ => exact ⟨a, b, rfl⟩
theorem len3 {σ : L2.St} (h : σ.length = 3) : ∃ a b c, σ = [a, b, c] := by
  match σ, h with
  | [a, b, c], _ => exact ⟨a, b, c, rfl⟩
theorem len4 {σ : L2.St} (h : σ.length = 4) : ∃ a b c d, σ = [a, b, c, d] := by
  match σ, h with
  | [a, b, c, d], _ => exact ⟨a, b, c, d, rfl⟩
/-- the law's begin with tables -/
theorem lam_start {K : PySem.W.Frag} {H : Hp} {T : List (Addr × Str)} {a : Addr} {xs : List V} (h : SqL K H a xs) (hT : ∀ p ∈ T, H p.1 = some (.tbl #[])) (hK : ∀ p ∈ T, K.lookup p.1 = none) (nd : (T.map (·.1)).Nodup) :
    ∃ G, Sub G ((T.map fun p => (p.1, HO.tbl #[])) ++ []) H ∧ SqL K G a xs := by
  refine Sub.start h (fun p hp => ?_) (by rw [List.append_nil, List.map_map]; exact nd)
  rw [List.append_nil] at hp
  obtain ⟨q, hq, rfl⟩ := List.mem_map.mp hp
  refine ⟨hT q hq, fun e => ?_⟩
  have e : q.1 = a := e
  have h1 := hT q hq
  rw [e] at h1
  rcases h with (h | ⟨o, h⟩) | ⟨o, its, n, h, _⟩
  · rw [h1] at h; cases h
  · rw [h1] at h; cases h
  · have h2 := hK q hq
    rw [e, h] at h2; cases h2
/-! ### the head with tables -/
def AlE : Type := He.AlD × Bool
/-- all but the empty tables; the statics stay -/
def frS (g : Addr → Option Obj) (as : List Addr) : PySem.W.Frag := (He.frG g as).filter fun q => !He.emptyTab q.2 || q.1 == cStatics
theorem frS_mem {g : Addr → Option Obj} {as : List Addr} {a : Addr} {o : Obj} (h : (frS g as).lookup a = some o) : g a = some o ∧ (He.emptyTab o = false ∨ a = cStatics) := by
  obtain ⟨h1, h2⟩ := List.mem_filter.mp (He.lookup_mem h)
  refine ⟨He.frG_mem h1, ?_⟩
  rcases (Bool.or_eq_true ..).mp h2 with h | h
  · exact .inl (by simpa using h)
  · exact .inr (by simpa using h)
theorem frS_in {as : List Addr} {h : Heap} : (frS h.get? as).In h := fun _ _ e => (frS_mem e).1
theorem frS_none {g : Addr → Option Obj} {as : List Addr} {a : Addr} {o : Obj} (h : g a = some o) (ht : He.emptyTab o = true) (hc : a ≠ cStatics) : (frS g as).lookup a = none := by
  cases e : (frS g as).lookup a with
  | none => rfl
  | some u =>
    obtain ⟨h1, h2⟩ := frS_mem e
    rw [h] at h1
    cases h1
    rcases h2 with h2 | h2
    · rw [ht] at h2; cases h2
    · exact absurd h2 hc
def asS (g : Addr → Option Obj) (n : Nat) : List Addr := cStatics :: He.asD g n
def tabsS (g : Addr → Option Obj) (tf : List He.Defn) (K : PySem.W.Frag) : Bool := He.tabsB g tf K && tf.all fun p => decide ((He.cT K p).2 ≠ cStatics)
def obsEGT (n : Nat) (fa : List He.Fa) (fn : List He5.DefA) (ex : List FrT) (tf : List He.Defn) (g : Addr → Option Obj) : He.AlD × Bool := (obsE fa fn ex (frS g (asS g n)), tabsS g tf (frS g (asS g n)))
structure SaysET (fa : List He.Fa) (fn : List He5.DefA) (ex : List FrT) (tf : List He.Defn) (h : Heap) (K : PySem.W.Frag) : Prop where
  t : SaysE fa fn ex K
  hd : ∀ p ∈ tf, PySem.W.codeHdIn K (He.cT K p).1 (He.cT K p).2 = true
  out : ∀ p ∈ tf, K.lookup (He.cT K p).2 = none
  empty : ∀ p ∈ tf, h.get? (He.cT K p).2 = some { cls := .none, data := .fields #[] }
theorem saysET_of {n : Nat} {fa : List He.Fa} {fn : List He5.DefA} {ex : List FrT} {tf : List He.Defn} {h : Heap} (e : obsEGT n fa fn ex tf h.get? = (valE fn, true)) : SaysET fa fn ex tf h (frS h.get? (asS h.get? n)) := by
  have e1 : obsE fa fn ex (frS h.get? (asS h.get? n)) = valE fn := congrArg (·.1) e
  have e2 : tabsS h.get? tf (frS h.get? (asS h.get? n)) = true := congrArg (·.2) e
  have ky : ∀ p ∈ tf, PySem.W.codeHdIn (frS h.get? (asS h.get? n)) (He.cT (frS h.get? (asS h.get? n)) p).1 (He.cT (frS h.get? (asS h.get? n)) p).2 = true ∧ ∃ o, h.get? (He.cT (frS h.get? (asS h.get? n)) p).2 = some o ∧ He.emptyTab o = true ∧ (He.cT (frS h.get? (asS h.get? n)) p).2 ≠ cStatics := by
    intro p hp
    obtain ⟨e3, e4⟩ := He.ba e2
    obtain ⟨a1, a2⟩ := He.ba (List.all_eq_true.mp e3 p hp)
    refine ⟨a1, ?_⟩
    split at a2
    · rename_i o q; exact ⟨o, q, a2, of_decide_eq_true (List.all_eq_true.mp e4 p hp)⟩
    · cases a2
  exact ⟨e1, fun p hp => (ky p hp).1, fun p hp => let ⟨_, o, q, z, n⟩ := ky p hp; frS_none q z n, fun p hp => let ⟨_, o, q, z, n⟩ := ky p hp; by rw [q, He.emptyTab_eq z]⟩
def hookET (n : Nat) (fa : List He.Fa) (fn : List He5.DefA) (ex : List FrT) (tf : List He.Defn) : PySem.W.Hook where
  α := He.AlD × Bool
  obs := fun s => obsEGT n fa fn ex tf s.heap.get?
  val := fun _ => (valE fn, true)
  says := fun _ h => ∃ K : PySem.W.Frag, K.In h ∧ SaysET fa fn ex tf h K
  of := fun _ _ e => ⟨_, frS_in, saysET_of e⟩
  keeps := fun _ _ _ ⟨K, hK, c⟩ k => ⟨K, PySem.W.Frag.In.keeps hK k, ⟨c.t, c.hd, c.out, fun p hp => k _ _ (c.empty p hp)⟩⟩
theorem obsEGT_eq {n : Nat} {fa : List He.Fa} {fn : List He5.DefA} {ex : List FrT} {tf : List He.Defn} {g : Addr → Option Obj} {s : Shared} (h : ∀ a, g a = s.heap.get? a) : obsEGT n fa fn ex tf g = (hookET n fa fn ex tf).obs s := by
  have e : g = s.heap.get? := funext h
  rw [e] <;> rfl
end Mr

set_option Elab.async false
set_option linter.all false
set_option maxRecDepth 100000
set_option maxHeartbeats 2000000
/-! DctW: dicts with tuple keys in worlds; dict(pairs); < of data. -/
namespace Mr
open PySem PySem.Spec PyProof.Rows L2
abbrev EtR {κ β : Type} (kk : κ → TK) (rk : R κ) (rv : R β) (G : Hp) (p : Ent) (x : κ × β) : Prop := p.1 = kk x.1 ∧ rk.rel G (V.ref p.2.1) x.1 ∧ rv.rel G p.2.2 x.2
def AlG {κ β : Type} (kk : κ → TK) (rk : R κ) (rv : R β) (G : Hp) : List Ent → List (κ × β) → Prop := Paired (EtR kk rk rv G)
section
variable {κ β : Type} [DecidableEq κ] {kk : κ → TK} {rk : R κ} {rv : R β} {K : PySem.W.Frag} {w : World} {G G' H : Hp} {O : Own} {a b : Addr} {kvs : List Ent} {xs : List (κ × β)} {k : κ} {y : β} {u v : V} {Q : VK}
theorem AlG.up (e : Ext G G') : ∀ {kvs : List Ent} {xs : List (κ × β)}, AlG kk rk rv G kvs xs → AlG kk rk rv G' kvs xs
  | _, _, .nil => .nil
  | _, _, .cons h t => .cons ⟨h.1, rk.mono e h.2.1, rv.mono e h.2.2⟩ (AlG.up e t)
theorem AlG.len : ∀ {kvs : List Ent} {xs : List (κ × β)}, AlG kk rk rv G kvs xs → kvs.length = xs.length
  | _, _, .nil => rfl
  | _, _, .cons _ t => congrArg Nat.succ (AlG.len t)
theorem AlG.keys (kr : KeyR K rk kk) : ∀ {kvs : List Ent} {xs : List (κ × β)}, AlG kk rk rv G kvs xs → ∀ p ∈ kvs, KyA K G p.2.1 p.1
  | _, _, .nil, _, hp => nomatch hp
  | _, _, .cons h t, p, hp => by
    rcases List.mem_cons.mp hp with e | hp
    · subst e
      obtain ⟨b, e, hk⟩ := kr.ky h.2.1
      cases e
      rw [h.1]; exact hk
    · exact AlG.keys kr t p hp
theorem AlG.kall : ∀ {kvs : List Ent} {xs : List (κ × β)}, AlG kk rk rv G kvs xs → Al rk G (kvs.map fun p => V.ref p.2.1) (xs.map (·.1))
  | _, _, .nil => True.intro
  | _, _, .cons h t => ⟨h.2.1, AlG.kall t⟩
theorem AlG.dca (kr : KeyR K rk kk) (e : Ext G H) (h : AlG kk rk rv G kvs xs) (ha : H a = some (DcO w a kvs)) : DcA K w H a kvs := ⟨ha, fun p hp => (h.keys kr p hp).up e⟩
theorem AlG.val (kr : KeyR K rk kk) (k : κ) : ∀ {kvs : List Ent} {xs : List (κ × β)}, AlG kk rk rv G kvs xs → (∀ y, getD2 xs k = some y → ∃ v, valG kvs (kk k) = some v ∧ rv.rel G v y) ∧ (valG kvs (kk k)).isSome = hasD xs k
  | _, _, .nil => ⟨fun _ e => (by cases e), rfl⟩
  | _, _, .cons (a := p) (b := x) h t => by
    have ih := AlG.val kr k t
    unfold valG hasD getD2 at ih ⊢
    by_cases c : x.1 = k
    · have c2 : p.1 = kk k := by rw [h.1, c]
      rw [List.find?_cons_of_pos (by simpa using c), List.find?_cons_of_pos (by simpa using c2)]
      exact ⟨fun y e => ⟨p.2.2, rfl, by cases (show x.2 = y from Option.some.inj e); exact h.2.2⟩, rfl⟩
    · have c2 : ¬ p.1 = kk k := fun z => c (kr.inj _ _ (h.1.symm.trans z))
      rw [List.find?_cons_of_neg (by simpa using c), List.find?_cons_of_neg (by simpa using c2)]
      exact ih
theorem AlG.mapP (kr : KeyR K rk kk) (hv : rv.rel G v y) : ∀ {kvs : List Ent} {xs : List (κ × β)}, AlG kk rk rv G kvs xs → AlG kk rk rv G (kvs.map fun p => if p.1 = kk k then (p.1, p.2.1, v) else p) (xs.map fun p => if p.1 = k then (p.1, y) else p)
  | _, _, .nil => .nil
  | _, _, .cons (a := p) (b := x) h t => by
    refine .cons ?_ (AlG.mapP kr hv t)
    show EtR kk rk rv G (if p.1 = kk k then (p.1, p.2.1, v) else p) (if x.1 = k then (x.1, y) else x)
    by_cases c : x.1 = k
    · rw [if_pos c, if_pos (by rw [h.1, c])]
      exact ⟨h.1, h.2.1, hv⟩
    · rw [if_neg c, if_neg fun z => c (kr.inj _ _ (h.1.symm.trans z))]
      exact h
theorem AlG.snoc {p : Ent} {x : κ × β} (h1 : EtR kk rk rv G p x) : ∀ {kvs : List Ent} {xs : List (κ × β)}, AlG kk rk rv G kvs xs → AlG kk rk rv G (kvs ++ [p]) (xs ++ [x])
  | _, _, .nil => .cons h1 .nil
  | _, _, .cons h t => .cons h (AlG.snoc h1 t)
theorem AlG.put (kr : KeyR K rk kk) (h : AlG kk rk rv G kvs xs) (hk : rk.rel G (V.ref b) k) (hv : rv.rel G v y) : AlG kk rk rv G (putG kvs (kk k) b v) (putD xs k y) := by
  have e := (h.val kr k).2
  unfold putG putD
  rw [e]
  by_cases c : hasD xs k = true
  · rw [if_pos c, if_pos c]; exact h.mapP kr hv
  · rw [if_neg c, if_neg c]; exact AlG.snoc (p := (kk k, b, v)) (x := (k, y)) ⟨rfl, hk, hv⟩ h
/-! ### frozen -/
def rDc (w : World) (kk : κ → TK) (rk : R κ) (rv : R β) : R (List (κ × β)) := ⟨fun G v xs => ∃ a kvs, v = .ref a ∧ G a = some (DcO w a kvs) ∧ AlG kk rk rv G kvs xs, fun e ⟨a, kvs, h1, h2, h3⟩ => ⟨a, kvs, h1, e _ _ h2, h3.up e⟩⟩
theorem frz_G (S : Sub G ((a, DcO w a kvs) :: O) H) (h : AlG kk rk rv G kvs xs) : ∃ G', Ext G G' ∧ Sub G' O H ∧ (rDc w kk rk rv).rel G' (.ref a) xs :=
  ⟨_, S.extFrz, S.frz (fun ps z => by unfold DcO at z; cases z), a, kvs, rfl, upd_same, h.up S.extFrz⟩
/-! ### steps -/
abbrev GetG (K : PySem.W.Frag) (w : World) (x y : V) (H : Hp) (Q : VK) : Prop := ∃ a kvs k b v, x = .ref a ∧ DcA K w H a kvs ∧ y = .ref b ∧ KyA K H b k ∧ valG kvs k = some v ∧ Q v H
abbrev InG (K : PySem.W.Frag) (w : World) (n : Bool) (x y : V) (H : Hp) (Q : VK) : Prop := ∃ a kvs k b, x = .ref a ∧ DcA K w H a kvs ∧ y = .ref b ∧ KyA K H b k ∧ Q (.bl (n != (valG kvs k).isSome)) H
theorem q_gget0 (kr : KeyR K rk kk) (E : Ext G H) (ha : H a = some (DcO w a kvs)) (h : AlG kk rk rv G kvs xs) (hk : rk.rel G u k) (e : getD2 xs k = some y) (q : ∀ v, rv.rel G v y → Q v H) : GetG K w (.ref a) u H Q := by
  obtain ⟨b, rfl, k1⟩ := kr.ky hk
  obtain ⟨v, h1, h2⟩ := (h.val kr _).1 y e
  exact ⟨a, kvs, _, b, v, rfl, h.dca kr E ha, rfl, k1.up E, h1, q v h2⟩
theorem q_ggetO (kr : KeyR K rk kk) (S : Sub G ((a, DcO w a kvs) :: O) H) (h : AlG kk rk rv G kvs xs) (hk : rk.rel G u k) (e : getD2 xs k = some y) (q : ∀ v, rv.rel G v y → Q v H) : GetG K w (.ref a) u H Q := q_gget0 kr S.ext S.head h hk e q
theorem q_ggetF (kr : KeyR K rk kk) (S : Sub G O H) (h : (rDc w kk rk rv).rel G v xs) (hk : rk.rel G u k) (e : getD2 xs k = some y) (q : ∀ v, rv.rel G v y → Q v H) : GetG K w v u H Q := by
  obtain ⟨a, kvs, rfl, h1, h2⟩ := h
  exact q_gget0 kr S.ext (S.ext _ _ h1) h2 hk e q
theorem q_gin0 {n : Bool} (kr : KeyR K rk kk) (E : Ext G H) (ha : H a = some (DcO w a kvs)) (h : AlG kk rk rv G kvs xs) (hk : rk.rel G u k) (q : Q (.bl (n != hasD xs k)) H) : InG K w n (.ref a) u H Q := by
  obtain ⟨b, rfl, k1⟩ := kr.ky hk
  exact ⟨a, kvs, _, b, rfl, h.dca kr E ha, rfl, k1.up E, by rw [(h.val kr _).2]; exact q⟩
theorem q_ginO {n : Bool} (kr : KeyR K rk kk) (S : Sub G ((a, DcO w a kvs) :: O) H) (h : AlG kk rk rv G kvs xs) (hk : rk.rel G u k) (q : Q (.bl (n != hasD xs k)) H) : InG K w n (.ref a) u H Q := q_gin0 kr S.ext S.head h hk q
theorem q_ginF {n : Bool} (kr : KeyR K rk kk) (S : Sub G O H) (h : (rDc w kk rk rv).rel G v xs) (hk : rk.rel G u k) (q : Q (.bl (n != hasD xs k)) H) : InG K w n v u H Q := by
  obtain ⟨a, kvs, rfl, h1, h2⟩ := h
  exact q_gin0 kr S.ext (S.ext _ _ h1) h2 hk q
theorem putDM_some {xs ys : List (κ × β)} (e : putDM xs k y = some ys) : xs.length < 100000 ∧ putD xs k y = ys := by
  unfold putDM at e
  split at e
  · rename_i c; exact ⟨c, Option.some.inj e⟩
  · cases e
theorem q_gput {ys : List (κ × β)} {P : Hp → Prop} (kr : KeyR K rk kk) (S : Sub G ((a, DcO w a kvs) :: O) H) (h : AlG kk rk rv G kvs xs) (hk : rk.rel G u k) (hv : rv.rel G v y) (e : putDM xs k y = some ys) (q : ∀ H' kvs', Sub G ((a, DcO w a kvs') :: O) H' → AlG kk rk rv G kvs' ys → P H') :
    ∃ a' kvs k b, V.ref a = .ref a' ∧ DcA K w H a' kvs ∧ u = .ref b ∧ KyA K H b k ∧ kvs.length < sizeLine ∧ P (upd H a' (DcO w a' (putG kvs k b v))) := by
  obtain ⟨b, rfl, k1⟩ := kr.ky hk
  obtain ⟨hz, rfl⟩ := putDM_some e
  exact ⟨a, kvs, _, b, rfl, h.dca kr S.ext S.head, rfl, k1.up S.ext, szl (by rw [h.len]; exact hz), q _ _ S.wr (h.put kr hk hv)⟩
/-! ### peels -/
variable {td ty tv : TE} {σ : L2.St} {D : Ends} {tr : TS} {n : Bool}
theorem gGGet (h : td σ H fun x H1 => ty σ H1 fun y H2 => GetG K w x y H2 Q) : tGGet K w td ty σ H Q := h
theorem gGIn (h : ty σ H fun y H1 => td σ H1 fun x H2 => InG K w n x y H2 Q) : tGIn K w n ty td σ H Q := h
theorem gGPut (h : tv σ H fun v H1 => td σ H1 fun x H2 => ty σ H2 fun y H3 => ∃ a kvs k b, x = .ref a ∧ DcA K w H3 a kvs ∧ y = .ref b ∧ KyA K H3 b k ∧ kvs.length < sizeLine ∧ D.nx σ (upd H3 a (DcO w a (putG kvs k b v)))) : sGPut K w td ty tv D σ H := h
theorem gS_GPut (h : tv σ H fun v H1 => td σ H1 fun x H2 => ty σ H2 fun y H3 => ∃ a kvs k b, x = .ref a ∧ DcA K w H3 a kvs ∧ y = .ref b ∧ KyA K H3 b k ∧ kvs.length < sizeLine ∧ tr D σ (upd H3 a (DcO w a (putG kvs k b v)))) : tSeq (sGPut K w td ty tv) tr D σ H := h
theorem gGNew (h : ∀ p, H p = none → Q (.ref p) (upd H p (DcO w p []))) : tGNew w σ H Q := h
end
/-! ### sorted -/
section
variable {κ β : Type} [DecidableEq κ] {kk : κ → TK} {rv : R β} {K : PySem.W.Frag} {w : World} {G G' H : Hp} {O : Own} {a : Addr} {kvs : List Ent} {xs : List (κ × β)} {ys : List κ} {v : V} {Q : VK}
theorem q_sortG0 (d : RD K κ) (k : κ → PyData) (hk : d.enc = k) (hd : d.dep ≤ 60) (kr : KeyR K d.r kk) (S : Sub G O H) (E : Ext G H) (ha : H a = some (DcO w a kvs)) (h : AlG kk d.r rv G kvs xs) (e : sortM k (xs.map (·.1)) = some ys) (hal : ∀ b b', PySem.W.alike (d.enc b) (d.enc b') = true) (hso : PySem.W.Sortable ((xs.map (·.1)).map d.enc))
    (q : ∀ u G' H', Ext G G' → Sub G' O H' → (rM d.r).rel G' u ys → Q u H') : rSortG K w [V.ref a] H Q := by
  obtain ⟨hz, rfl⟩ := sortM_some e
  subst hk
  exact ⟨κ, d.r, G, d.enc, a, kvs, _, rfl, h.dca kr E ha, h.kall, fun v b h => d.dp (R.up E h), PySem.W.AllAlike.of hal, hso, fun b => Nat.le_trans (d.dpt b) hd, fun ys t hy ht => q _ _ _ (S.extNew ht _) (S.new ht) ⟨t, ys, rfl, upd_same, hy.up (S.extNew ht _)⟩⟩
theorem q_sortGO (d : RD K κ) (k : κ → PyData) (hk : d.enc = k) (hd : d.dep ≤ 60) (kr : KeyR K d.r kk) (S : Sub G ((a, DcO w a kvs) :: O) H) (h : AlG kk d.r rv G kvs xs) (e : sortM k (xs.map (·.1)) = some ys) (hal : ∀ b b', PySem.W.alike (d.enc b) (d.enc b') = true) (hso : PySem.W.Sortable ((xs.map (·.1)).map d.enc))
    (q : ∀ u G' H', Ext G G' → Sub G' ((a, DcO w a kvs) :: O) H' → (rM d.r).rel G' u ys → Q u H') : rSortG K w [V.ref a] H Q := q_sortG0 d k hk hd kr S S.ext S.head h e hal hso q
theorem q_sortGF (d : RD K κ) (k : κ → PyData) (hk : d.enc = k) (hd : d.dep ≤ 60) (kr : KeyR K d.r kk) (S : Sub G O H) (h : (rDc w kk d.r rv).rel G v xs) (e : sortM k (xs.map (·.1)) = some ys) (hal : ∀ b b', PySem.W.alike (d.enc b) (d.enc b') = true) (hso : PySem.W.Sortable ((xs.map (·.1)).map d.enc))
    (q : ∀ u G' H', Ext G G' → Sub G' O H' → (rM d.r).rel G' u ys → Q u H') : rSortG K w [v] H Q := by
  obtain ⟨a, kvs, rfl, h1, h2⟩ := h
  exact q_sortG0 d k hk hd kr S S.ext (S.ext _ _ h1) h2 e hal hso q
end
/-! ### dict(pairs) -/
def ofG (es : List Ent) : List Ent := es.foldl (fun acc e => putG acc e.1 e.2.1 e.2.2) []
def rDictG (K : PySem.W.Frag) (w : World) : List V → Hp → VK → Prop := fun xs H Q => ∃ (a : Addr) (ps : List Addr) (es : List Ent), xs = [V.ref a] ∧ SqL K H a (ps.map V.ref) ∧ Paired (fun p (e : Ent) => SqT K H p [V.ref e.2.1, e.2.2]) ps es ∧ (∀ e ∈ es, KyA K H e.2.1 e.1) ∧ ∀ p, H p = none → Q (.ref p) (upd H p (DcO w p (ofG es)))
theorem ent_pairs {X : Cx} {pins : List (Addr × Obj)} {σ : L2.St} {H : Hp} {s : Shared} (I : Inv X pins σ H s) : ∀ {ps : List Addr} {es : List Ent}, Paired (fun p (e : Ent) => SqT X.K H p [V.ref e.2.1, e.2.2]) ps es →
    ∃ xs, EntR es xs ∧ xs.length = ps.length ∧ ∀ (j : Nat) (x : TK × Addr × Value), xs[j]? = some x → ∃ b : Addr, ps[j]? = some b ∧ IsTup s.heap b #[Value.ref x.2.1, x.2.2]
  | _, _, .nil => ⟨[], .nil, rfl, fun j q e => by simp at e⟩
  | _, _, .cons (a := p) (b := e) h t => by
    obtain ⟨xs, r, hl, hp⟩ := ent_pairs I t
    obtain ⟨its, rv, ht, _⟩ := I.tuple h
    obtain ⟨u, y, ei, ru, ry⟩ := vals2 rv
    subst ei
    obtain rfl : u = Value.ref e.2.1 := ru
    refine ⟨(e.1, e.2.1, y) :: xs, .cons ⟨rfl, rfl, ry⟩ r, by rw [List.length_cons, List.length_cons, hl], fun j q ej => ?_⟩
    cases j with
    | zero => cases (show (e.1, e.2.1, y) = q from Option.some.inj ej); exact ⟨p, rfl, ht⟩
    | succ j =>
      obtain ⟨b, e1, e2⟩ := hp j q (by simpa using ej)
      exact ⟨b, by simpa using e1, e2⟩
theorem entR_fold : ∀ {es : List Ent} {xs : List (TK × Addr × Value)} {acc : List Ent} {bcc : List (TK × Addr × Value)}, EntR es xs → EntR acc bcc → EntR (es.foldl (fun acc e => putG acc e.1 e.2.1 e.2.2) acc) (xs.foldl (fun acc p => storedH acc p.1 p.2.1 p.2.2) bcc)
  | _, _, _, _, .nil, h => h
  | _, _, _, _, .cons (a := e) (b := x) r t, h => by
    rw [List.foldl_cons, List.foldl_cons, ← r.1, ← r.2.1]
    exact entR_fold t (entR_put e.1 r.2.2 h)
theorem ofG_len : ∀ (es acc : List Ent), (es.foldl (fun acc e => putG acc e.1 e.2.1 e.2.2) acc).length ≤ acc.length + es.length
  | [], acc => Nat.le_refl _
  | e :: es, acc => by
    have h1 := putG_len acc e.1 e.2.1 e.2.2
    have h2 := ofG_len es (putG acc e.1 e.2.1 e.2.2)
    rw [List.foldl_cons, List.length_cons]
    omega
theorem call_dictG {X : Cx} {k0 : Nat} (hr : Room k0 X.A) (hcalm : X.calm = true) : CallR X (.type "dict") (rDictG X.K X.w) := by
  intro pins s σ H xs us Q I r q
  obtain ⟨a, ps, es, ex, hq, hp, hk, q⟩ := q
  subst ex
  obtain ⟨u, eu, rx⟩ := vals1 r
  subst eu
  obtain rfl : u = Value.ref a := rx
  obtain ⟨its, rv, pl, hz⟩ := I.list hq
  have ei := refs_at rv
  subst ei
  rw [List.length_map] at hz
  obtain ⟨zs, rz, hl, hpr⟩ := ent_pairs I hp
  obtain ⟨o, n, ho, hc, hd, hdat⟩ := pl
  have hu := hr.units
  have ki : ∀ x ∈ zs, (treeKind X.prog X.w).is s.heap x.1 x.2.1 := fun x hx => by
    obtain ⟨p, hp, e1, e2⟩ := entR_mem rz x hx
    rw [← e1, ← e2]
    exact (hk p hp).is I
  refine PySem.call_dict_pairsH (knd := treeKind X.prog X.w) (ps := zs) (PairArg.list a (ps.map Value.ref).toArray (fun j => ps.getD j 0) (zs.map fun x => (Value.ref x.2.1, x.2.2))) (I.ok.hd hcalm) (treeKind_room_in1 (A := X.A.in1) (by show X.A.units + 1 + 8 < cLine; omega)) ⟨⟨o, n, ho, hc, hd, hdat⟩, by simp [hl], fun j k v e => ?_⟩ ⟨by simp, fun i key v e => ?_⟩ (fun h' e x hx => ?_) (by rw [List.length_map, hl]; exact hz) fun h' tk hd' kp => ?_
  · rw [List.getElem?_map] at e
    obtain ⟨x, e1, e2⟩ := Option.map_eq_some_iff.mp e
    cases e2
    obtain ⟨b, e3, e4⟩ := hpr j x e1
    have e5 : ps.getD j 0 = b := by rw [List.getD_eq_getElem?_getD, e3]; rfl
    show _ = some (Value.ref (ps.getD j 0)) ∧ PairAt s.heap (ps.getD j 0) _ _
    rw [e5]
    exact ⟨by simp [e3], .inl e4⟩
  · have e : (zs.map fun x => (Value.ref x.2.1, x.2.2))[i]? = some (key, v) := e
    rw [List.getElem?_map] at e
    obtain ⟨x, e1, e2⟩ := Option.map_eq_some_iff.mp e
    cases e2
    exact ⟨x.1, x.2.1, e1, rfl⟩
  · exact (ki x hx).grow fun b o z => e b o (Nat.ne_of_lt (Heap.lt_size z)) (List.not_mem_nil) z
  · have hm : (s.heap.objs.size == sysModules) = false := beq_eq_false_iff_ne.mpr (Nat.ne_of_gt I.big)
    have hlen : (ofG es).length ≤ sizeLine := by
      have h1 := ofG_len es []
      have h2 := entR_len rz
      unfold ofG
      simp only [List.length_nil] at h1
      omega
    obtain ⟨o', es', ep', g, c1, c2, c3, _, c5⟩ := hd'
    exact ⟨.ref s.heap.objs.size, upd H s.heap.objs.size (DcO X.w s.heap.objs.size (ofG es)), I.laid (t' := tk) (fun b o e => kp b o (List.not_mem_nil) e) (Nat.le_refl _) (dcO_stay ⟨hlen, hm, _, entR_fold rz .nil, o', es', ep', g, c1, c2, c3, c5⟩), rfl, q _ (I.hok.fresh (Nat.le_refl _))⟩
end Mr

set_option Elab.async false
set_option linter.all false
set_option maxRecDepth 100000
set_option maxHeartbeats 2000000
/-! DctX: dict(list of pairs) in worlds; < of data. -/
namespace Mr
open PySem PySem.Spec PyProof.Rows L2
section
variable {κ β : Type} [DecidableEq κ] {kk : κ → TK} {rk : R κ} {rv : R β} {K : PySem.W.Frag} {w : World} {G G' H : Hp} {O : Own} {a b : Addr} {xs ys : List (κ × β)} {v : V} {Q : VK}
theorem pairs_al (kr : KeyR K rk kk) : ∀ {vs : List V} {ps : List (κ × β)}, Al (rP2 K rk rv) G vs ps → ∃ (ads : List Addr) (es : List Ent), vs = ads.map V.ref ∧ Paired (fun p (e : Ent) => SqT K G p [V.ref e.2.1, e.2.2]) ads es ∧ AlG kk rk rv G es ps
  | [], [], _ => ⟨[], [], rfl, .nil, .nil⟩
  | v :: vs, x :: ps, h => by
    obtain ⟨⟨p, v0, v1, hv, hs, h0, h1⟩, h2⟩ := h
    obtain ⟨b, e0, _⟩ := kr.ky h0
    subst hv e0
    obtain ⟨ads, es, e1, e2, e3⟩ := pairs_al kr h2
    exact ⟨p :: ads, (kk x.1, b, v1) :: es, by rw [e1]; rfl, .cons hs e2, .cons ⟨rfl, h0, h1⟩ e3⟩
  | [], _ :: _, h => h.elim
  | _ :: _, [], h => h.elim
theorem pairedS_up (e : Ext G H) : ∀ {ads : List Addr} {es : List Ent}, Paired (fun p (e : Ent) => SqT K G p [V.ref e.2.1, e.2.2]) ads es → Paired (fun p (e : Ent) => SqT K H p [V.ref e.2.1, e.2.2]) ads es
  | _, _, .nil => .nil
  | _, _, .cons h t => .cons (sqT_up e h) (pairedS_up e t)
theorem AlG.fold (kr : KeyR K rk kk) : ∀ {es : List Ent} {ps : List (κ × β)} {acc : List Ent} {xs : List (κ × β)}, AlG kk rk rv G es ps → AlG kk rk rv G acc xs → AlG kk rk rv G (es.foldl (fun acc e => putG acc e.1 e.2.1 e.2.2) acc) (ps.foldl (fun acc p => putD acc p.1 p.2) xs)
  | _, _, _, _, .nil, h => h
  | _, _, _, _, .cons (a := e) (b := x) r t, h => by
    rw [List.foldl_cons, List.foldl_cons, r.1]
    exact AlG.fold kr t (h.put kr r.2.1 r.2.2)
theorem ofDM_some (e : ofDM xs = some ys) : ofD xs = ys := by
  unfold ofDM at e
  split at e
  · exact Option.some.inj e
  · cases e
theorem q_dictL (kr : KeyR K rk kk) (S : Sub G O H) (h : (rL K (rP2 K rk rv)).rel G v xs) (e : ofDM xs = some ys) (q : ∀ u G' H', Ext G G' → Sub G' O H' → (rDc w kk rk rv).rel G' u ys → Q u H') : rDictG K w [v] H Q := by
  obtain rfl := ofDM_some e
  obtain ⟨p, vs, rfl, hs, ha⟩ := h
  obtain ⟨ads, es, rfl, h1, h2⟩ := pairs_al kr ha
  have hn : ∀ p, ∀ ps, DcO w p (ofG es) ≠ .tbl ps := fun p ps z => by unfold DcO at z; cases z
  refine ⟨p, ads, es, rfl, sqL_up S.ext hs, pairedS_up S.ext h1, fun e he => (h2.keys kr e he).up S.ext, fun t ht => q _ _ _ (S.extNew ht _) (S.new ht (hn t)) ⟨t, ofG es, rfl, upd_same, AlG.up (S.extNew ht _) (AlG.fold kr h2 .nil)⟩⟩
end
def rLtD (K : PySem.W.Frag) : R2 := fun x y H Q => ∃ d e, Dp K H x d ∧ Dp K H y e ∧ PySem.W.alike d e = true ∧ d ≠ .none ∧ d.depth ≤ 60 ∧ Q (.bl (PySem.W.dataLt d e)) H
theorem op_ltD {X : Cx} (hu : X.A.units + 64 < cLine) : OpR X (compareOp .Lt) (rLtD X.K) := by
  intro pins s σ H x y v u Q I rx ry h
  obtain ⟨d, e, hd, he, hal, hn, hp, q⟩ := h
  obtain ⟨as, r1⟩ := Dp.reads I d x v hd rx
  obtain ⟨bs, r2⟩ := Dp.reads I e y u he ry
  exact PySem.W.lt_data r1 r2 hal hn (by omega) ⟨.bl _, H, I, rfl, q⟩
theorem q_ltD {α : Type} [DecidableEq α] {K : PySem.W.Frag} {G H : Hp} {O : Own} {v w : V} {x y : α} {Q : VK} (d : RD K α) (S : Sub G O H) (hd : d.dep ≤ 60) (h1 : d.r.rel G v x) (h2 : d.r.rel G w y) (hal : PySem.W.alike (d.enc x) (d.enc y) = true) (hn : d.enc x ≠ .none) (q : Q (.bl (ltD (d.enc x) (d.enc y))) H) : rLtD K v w H Q :=
  ⟨_, _, d.dp (R.up S.ext h1), d.dp (R.up S.ext h2), hal, hn, Nat.le_trans (d.dpt x) hd, q⟩
/-! ### in blocks -/
section
variable {X : Cx} {K : PySem.W.Frag} {w : World} {o i : Expr} {pos : Pos} {td ty tv : TE}
theorem pe_ggetK (h : X.K = K) (h2 : X.w = w) (hu : X.A.units + 8 < cLine) (ho : PE X o td) (hi : PE X i ty) (hs : NoSl i) : PE X (.Subscript o i pos) (tGGet K w td ty) := by subst h h2; exact pe_gget hu ho hi hs
theorem pc_ginK (h : X.K = K) (h2 : X.w = w) (hu : X.A.units + 8 < cLine) (hi : PE X i ty) (ho : PE X o td) : PC X .In i o (tGIn K w false ty td) := by subst h h2; exact pc_gin hu hi ho
theorem pc_gninK (h : X.K = K) (h2 : X.w = w) (hu : X.A.units + 8 < cLine) (hi : PE X i ty) (ho : PE X o td) : PC X .NotIn i o (tGIn K w true ty td) := by subst h h2; exact pc_gnin hu hi ho
theorem call_sortedGK {k0 : Nat} (h : X.K = K) (h2 : X.w = w) (hr : Room k0 X.A) (hcalm : X.calm = true) : CallR X (.builtin "sorted") (rSortG K w) := by subst h h2; exact call_sortedG hr hcalm
theorem call_dictGK {k0 : Nat} (h : X.K = K) (h2 : X.w = w) (hr : Room k0 X.A) (hcalm : X.calm = true) : CallR X (.type "dict") (rDictG K w) := by subst h h2; exact call_dictG hr hcalm
theorem op_ltDK (h : X.K = K) (hu : X.A.units + 64 < cLine) : OpR X (compareOp .Lt) (rLtD K) := h ▸ op_ltD hu
theorem op_catTK (h : X.K = K) : OpR X (binaryOp .Add) (rCatT K) := h ▸ op_catT
theorem sl_tupK (h : X.K = K) : SlR X (rSlT K) := h ▸ sl_tup
end
/-! ### equality of data with texts -/
section
variable {α : Type} [DecidableEq α] {K : PySem.W.Frag} {H : Hp} {v w : V} {x y : α} {b : Bool} {Q : VK}
theorem q_eqDx (d : RD K α) (hd : d.dep ≤ 64) (h1 : d.r.rel H v x) (h2 : d.r.rel H w y) (o1 : d.ok x = true) (o2 : d.ok y = true) (e : decide (x = y) = b) (q : Q (.bl b) H) : rEqD K v w H Q := q_eqD d hd h1 h2 o1 o2 (by rw [e]; exact q)
theorem q_neDx (d : RD K α) (hd : d.dep ≤ 64) (h1 : d.r.rel H v x) (h2 : d.r.rel H w y) (o1 : d.ok x = true) (o2 : d.ok y = true) (e : decide (x = y) = b) (q : Q (.bl (!b)) H) : rNeD K v w H Q := q_neD d hd h1 h2 o1 o2 (by rw [e]; exact q)
end
/-! ### lists that are changed at the end -/
section
variable {α : Type} {r : R α} {K : PySem.W.Frag} {G G2 H H2 : Hp} {O O' : Own} {a : Addr} {o : HO} {vs : List V} {xs : List α} {u : V} {Q : VK}
theorem q_clr (S : Sub G ((a, .lst vs) :: O) H) (q : ∀ H', Sub G ((a, .lst []) :: O) H' → Q .non H') : tyV K "list" (.ref a) H ∧ rClear (.ref a) [] H Q := ⟨.inl ⟨rfl, _, .inl (.inl S.head)⟩, a, vs, rfl, rfl, S.head, q _ S.wr⟩
theorem gBMz {T : String} {r : V → List V → Hp → VK → Prop} {te : TE} {σ : L2.St} (h : te σ H fun x H1 => tyV K T x H1 ∧ r x [] H1 Q) : tBM0 K T r te σ H Q := h
theorem appX_some {ys : List α} (e : appX xs = some ys) : ys = xs := by
  unfold appX at e
  split at e
  · exact (Option.some.inj e).symm
  · cases e
theorem q_appX {ys : List α} (S : Sub G ((a, .lst vs) :: O) H) (h : Al r G vs xs) (e : (if xs.length < 100000 then some xs else none) = some ys) (q : ∀ H', Sub G ((a, .lst (vs ++ [u])) :: O) H' → Q .non H') : rAppend (.ref a) [u] H Q := by
  refine ⟨a, vs, u, rfl, rfl, S.head, szl ?_, q _ S.wr⟩
  rw [h.len]
  split at e
  · assumption
  · cases e
theorem cutV_last (vs : List V) (u : V) : cutV (vs ++ [u]) none (some (-1)) = vs := by
  unfold cutV
  have e1 : HT.sIx (vs ++ [u]).length 0 none = 0 := rfl
  have e2 : HT.sIx (vs ++ [u]).length (vs ++ [u]).length (some (-1)) = vs.length := by
    unfold HT.sIx
    simp
    omega
  rw [e1, e2]
  simp
theorem q_slX (S : Sub G ((a, .lst (vs ++ [u])) :: O) H) (h : Al r G vs xs) (q : ∀ w G' H', Ext G G' → Sub G' ((a, .lst (vs ++ [u])) :: O) H' → (rM r).rel G' w xs → Q w H') : rSlL K (.ref a) none (some (-1)) H Q := by
  refine ⟨a, vs ++ [u], rfl, .inl (.inl S.head), fun t ht => ?_⟩
  rw [cutV_last]
  exact q _ _ _ (S.extNew ht _) (S.new ht) ⟨t, _, rfl, upd_same, h.up (S.extNew ht _)⟩
theorem Sub.thaw2 (S : Sub G ((a, o) :: O) H) (e : Ext (upd G a o) G2) (S2 : Sub G2 O' H2) (hk : O'.map (·.1) = O.map (·.1)) : Sub G ((a, o) :: O') H2 := by
  have h0 : Ext G G2 := S.extFrz.trans e
  refine ⟨h0.trans S2.ext, fun q hq => ?_, by have := S.nd; rw [List.map_cons] at this ⊢; rw [hk]; exact this, S.nt⟩
  rcases List.mem_cons.mp hq with rfl | hq
  · exact ⟨S2.ext _ _ (e _ _ upd_same), S.ghead⟩
  · obtain ⟨h1, h2⟩ := S2.own q hq
    refine ⟨h1, ?_⟩
    cases hg : G q.1 with
    | none => rfl
    | some u => rw [h0 _ _ hg] at h2; cases h2
theorem Al.anyI {G G' : Hp} {f : α → V} {vs : List V} {xs : List α} (h : Al (rSc f) G vs xs) : Al (rSc f) G' vs xs := by
  rw [Al.sc h]; exact Al.ofSc
end
/-! ### a text or None, as data -/
def dOT {K : PySem.W.Frag} : RD K (Option Wrd) := ⟨rO rTx, fun x => match x with
    | none => .none
    | some y => (dTx (K := K)).enc y, 2, okON okW,
  fun x h => by
    cases x with
    | none => rfl
    | some y => exact (dTx (K := K)).lay y h,
  fun x => by
    cases x with
    | none => simp [PyData.depth]
    | some y => exact Nat.le_succ_of_le ((dTx (K := K)).dpt y),
  fun {H v x} h => by
    cases x with
    | none => cases (show v = .non from h); exact .non
    | some y => exact (dTx (K := K)).dp h.2,
  fun x y => by
    cases x with
    | none => cases y <;> rfl
    | some x =>
      cases y with
      | none => rfl
      | some y =>
        show PyData.eqv ((dTx (K := K)).enc x) ((dTx (K := K)).enc y) = _
        rw [(dTx (K := K)).eqv]
        by_cases e : x = y
        · subst e; simp
        · simp [e]⟩
def rGeD (K : PySem.W.Frag) : R2 := fun x y H Q => ∃ d e, Dp K H x d ∧ Dp K H y e ∧ PySem.W.alike d e = true ∧ d ≠ .none ∧ d.depth ≤ 60 ∧ Q (.bl (!PySem.W.dataLt d e)) H
theorem op_geD {X : Cx} (hu : X.A.units + 64 < cLine) : OpR X (compareOp .GtE) (rGeD X.K) := by
  intro pins s σ H x y v u Q I rx ry h
  obtain ⟨d, e, hd, he, hal, hn, hp, q⟩ := h
  obtain ⟨as, r1⟩ := Dp.reads I d x v hd rx
  obtain ⟨bs, r2⟩ := Dp.reads I e y u he ry
  exact PySem.W.ge_data r1 r2 hal hn (by omega) ⟨.bl _, H, I, rfl, q⟩
theorem op_geDK {X : Cx} {K : PySem.W.Frag} (h : X.K = K) (hu : X.A.units + 64 < cLine) : OpR X (compareOp .GtE) (rGeD K) := h ▸ op_geD hu
theorem q_geD {α : Type} [DecidableEq α] {K : PySem.W.Frag} {G H : Hp} {O : Own} {v w : V} {x y : α} {Q : VK} (d : RD K α) (S : Sub G O H) (hd : d.dep ≤ 60) (h1 : d.r.rel G v x) (h2 : d.r.rel G w y) (hal : PySem.W.alike (d.enc x) (d.enc y) = true) (hn : d.enc x ≠ .none) (q : Q (.bl (!ltD (d.enc x) (d.enc y))) H) : rGeD K v w H Q :=
  ⟨_, _, d.dp (R.up S.ext h1), d.dp (R.up S.ext h2), hal, hn, Nat.le_trans (d.dpt x) hd, q⟩
/-- a tuple that is only taken apart -/
theorem q_junkT {xs : List V} {G H : Hp} {O : Own} {Q : VK} (hl : xs.length ≤ 100000) (S : Sub G O H) (q : ∀ p, Sub G O (upd H p (.tup xs)) → Q (.ref p) (upd H p (.tup xs))) : mkTup xs H Q := ⟨sz hl, fun p hp => q p (S.junk hp)⟩
theorem q_gtx5 {K : PySem.W.Frag} {H : Hp} {p : Addr} {v0 v1 v2 v3 v4 : V} {σ : L2.St} {i0 i1 i2 i3 i4 : Nat} {QS : L2.St → Hp → Prop} (h : H p = some (.tup [v0, v1, v2, v3, v4])) (q : QS (((((σ.set i0 (some v0)).set i1 (some v1)).set i2 (some v2)).set i3 (some v3)).set i4 (some v4)) H) :
    gTup K 5 (gCons (gName i0) (gCons (gName i1) (gCons (gName i2) (gCons (gName i3) (gCons (gName i4) gNil))))) (.ref p) σ H QS := ⟨p, _, rfl, .inl (.inl h), rfl, _, _, rfl, _, _, rfl, _, _, rfl, _, _, rfl, _, _, rfl, rfl, q⟩
end Mr

set_option Elab.async false
set_option linter.all false
set_option maxRecDepth 100000
set_option maxHeartbeats 2000000
/-! Lc2G: [e for x in xs for y in ys] in worlds. -/
namespace Mr
open PySem PySem.Spec PyProof.Rows L2
/-- the second source's loop -/
def Lc2In (g1 : TG) (tt1 : TT) (te : TE) (vs1 : List Nat) (σ2 : L2.St) (D : Addr) (Nx : Hp → Prop) (J1 : It) (H4 : Hp) : Prop :=
  ∃ W1 : Nat → Nat → Hp → Prop, (∃ m, W1 0 m H4) ∧ ∀ j k H, W1 j k H → (J1.stop j H ∧ Nx H) ∨
    (J1.go j H ∧ ∃ Nx1 : Hp → Prop, (∀ H', Nx1 H' → ∃ k', k' < k ∧ W1 (j + 1) k' H') ∧ ∀ x H', J1.yld j H x H' → g1 x (wipe σ2 vs1) H' (lcTurn tt1 te vs1 σ2 D Nx1))
def lc2Turn (tt : TT) (wi1 : TI) (g1 : TG) (tt1 : TT) (te : TE) (vs vs1 : List Nat) (σ : L2.St) (D : Addr) (Nx : Hp → Prop) (σ2 : L2.St) (H2 : Hp) : Prop :=
  wipe σ2 vs = wipe σ vs ∧ tt σ2 H2 fun b H3 => if b = true then wi1 σ2 H3 (Lc2In g1 tt1 te vs1 σ2 D Nx) else Nx H3
def Lc2W (g : TG) (tt : TT) (wi1 : TI) (g1 : TG) (tt1 : TT) (te : TE) (vs vs1 : List Nat) (σ : L2.St) (Q : VK) (J : It) (H1 : Hp) : Prop :=
  ∀ D, H1 D = none → ∃ W : Nat → Nat → Hp → Prop, (∃ m, W 0 m (upd H1 D (.lst []))) ∧ ∀ i m H, W i m H → (J.stop i H ∧ Q (.ref D) H) ∨
    (J.go i H ∧ ∃ Nx : Hp → Prop, (∀ H', Nx H' → ∃ m', m' < m ∧ W (i + 1) m' H') ∧ ∀ x H', J.yld i H x H' → g x (wipe σ vs) H' (lc2Turn tt wi1 g1 tt1 te vs vs1 σ D Nx))
theorem gLc2 {wi : TI} {g : TG} {tt : TT} {wi1 : TI} {g1 : TG} {tt1 : TT} {te : TE} {vs vs1 : List Nat} {σ : L2.St} {H : Hp} {Q : VK} (h : wi σ H (Lc2W g tt wi1 g1 tt1 te vs vs1 σ Q)) : tLc2 wi g tt wi1 g1 tt1 te vs vs1 σ H Q := h
section
variable {α τ : Type} {J : It} {n : Nat} {GW : Hp → Prop} {Y : Nat → Hp → V → Hp → Prop} {f : τ → α → Option τ} {xs : List α} {s0 s1 : τ} {g g1 : TG} {tt tt1 : TT} {wi1 : TI} {te : TE} {ws ws1 : List Nat} {σ σ2 : L2.St} {H : Hp} {Q : VK} {D : Addr} {Nx : Hp → Prop}
theorem lc2_fol (w : Walk J n GW Y) (hn : xs.length = n) (hm : folM f xs s0 = some s1) (I : Addr → τ → Hp → Prop) (h0 : ∀ D, H D = none → I D s0 (upd H D (.lst []))) (hG : ∀ D s H, I D s H → GW H)
    (hs : ∀ (D : Addr) (i : Nat) (x : α) (s s' : τ), xs[i]? = some x → f s x = some s' → folM f (xs.drop (i + 1)) s' = some s1 → ∀ v H H', I D s H → Y i H v H' → g v (wipe σ ws) H' (lc2Turn tt wi1 g1 tt1 te ws ws1 σ D (PvF f xs s1 (I D) (i + 1))))
    (hd : ∀ D H, I D s1 H → Q (.ref D) H) : Lc2W g tt wi1 g1 tt1 te ws ws1 σ Q J H := by
  intro D hD
  refine ⟨fun i m H => m = n - i ∧ i ≤ n ∧ PvF f xs s1 (I D) i H, ⟨n, (Nat.sub_zero n).symm, Nat.zero_le _, s0, h0 D hD, hm⟩, ?_⟩
  rintro i m H ⟨rfl, hi, s, hI, hf⟩
  have q := hG D s H hI
  by_cases hlt : i < n
  · have hx : xs[i]? = some xs[i] := List.getElem?_eq_getElem (by omega)
    obtain ⟨s', hb, hr⟩ := folM_drop hx hf
    exact .inr ⟨w.goes i H hlt q, PvF f xs s1 (I D) (i + 1), fun H' p' => ⟨n - (i + 1), by omega, rfl, hlt, p'⟩, fun v H' y => hs D i _ s s' hx hb hr v H H' hI (w.yields i H v H' hlt q y)⟩
  · have e : i = n := by omega
    subst e
    rw [← hn, List.drop_length] at hf
    cases hf
    exact .inl ⟨w.stops H q, hd D H hI⟩
theorem lci_fol (w : Walk J n GW Y) (hn : xs.length = n) (hm : folM f xs s0 = some s1) (I : τ → Hp → Prop) (h0 : I s0 H) (hG : ∀ s H, I s H → GW H)
    (hs : ∀ (i : Nat) (x : α) (s s' : τ), xs[i]? = some x → f s x = some s' → folM f (xs.drop (i + 1)) s' = some s1 → ∀ v H H', I s H → Y i H v H' → g1 v (wipe σ2 ws1) H' (lcTurn tt1 te ws1 σ2 D (PvF f xs s1 I (i + 1))))
    (hd : ∀ H, I s1 H → Nx H) : Lc2In g1 tt1 te ws1 σ2 D Nx J H := by
  refine ⟨fun i m H => m = n - i ∧ i ≤ n ∧ PvF f xs s1 I i H, ⟨n, (Nat.sub_zero n).symm, Nat.zero_le _, s0, h0, hm⟩, ?_⟩
  rintro i m H ⟨rfl, hi, s, hI, hf⟩
  have q := hG s H hI
  by_cases hlt : i < n
  · have hx : xs[i]? = some xs[i] := List.getElem?_eq_getElem (by omega)
    obtain ⟨s', hb, hr⟩ := folM_drop hx hf
    exact .inr ⟨w.goes i H hlt q, PvF f xs s1 I (i + 1), fun H' p' => ⟨n - (i + 1), by omega, rfl, hlt, p'⟩, fun v H' y => hs i _ s s' hx hb hr v H H' hI (w.yields i H v H' hlt q y)⟩
  · have e : i = n := by omega
    subst e
    rw [← hn, List.drop_length] at hf
    cases hf
    exact .inl ⟨w.stops H q, hd H hI⟩
variable {K : PySem.W.Frag} {G : Hp} {O : Own} {r : R α} {v : V}
theorem lc2_L (S : Sub G O H) (h : (rL K r).rel G v xs) (hm : folM f xs s0 = some s1) (I : Addr → τ → Hp → Prop) (h0 : ∀ D, H D = none → I D s0 (upd H D (.lst []))) (hG : ∀ D s H, I D s H → Ext G H)
    (hs : ∀ (D : Addr) (i : Nat) (x : α) (s s' : τ), f s x = some s' → folM f (xs.drop (i + 1)) s' = some s1 → ∀ w H, I D s H → r.rel G w x → g w (wipe σ ws) H (lc2Turn tt wi1 g1 tt1 te ws ws1 σ D (PvF f xs s1 (I D) (i + 1))))
    (hd : ∀ D H, I D s1 H → Q (.ref D) H) : itL K v H (Lc2W g tt wi1 g1 tt1 te ws ws1 σ Q) := by
  obtain ⟨p, vs, rfl, hq, ha⟩ := h
  refine ⟨p, rfl, ⟨vs, sqL_up S.ext hq⟩, lc2_fol (walk_list (xs := vs)) ha.len.symm hm I h0 (fun D s H hI => sqL_up (hG D s H hI) hq) (fun D i x s s' hx hb hr w H H' hI hY => ?_) hd⟩
  obtain ⟨rfl, hw⟩ := hY
  exact hs D i x s s' hb hr w _ hI (ha.at hx hw)
theorem lc2_T (S : Sub G O H) (h : (rT K r).rel G v xs) (hm : folM f xs s0 = some s1) (I : Addr → τ → Hp → Prop) (h0 : ∀ D, H D = none → I D s0 (upd H D (.lst []))) (hG : ∀ D s H, I D s H → Ext G H)
    (hs : ∀ (D : Addr) (i : Nat) (x : α) (s s' : τ), f s x = some s' → folM f (xs.drop (i + 1)) s' = some s1 → ∀ w H, I D s H → r.rel G w x → g w (wipe σ ws) H (lc2Turn tt wi1 g1 tt1 te ws ws1 σ D (PvF f xs s1 (I D) (i + 1))))
    (hd : ∀ D H, I D s1 H → Q (.ref D) H) : itT K v H (Lc2W g tt wi1 g1 tt1 te ws ws1 σ Q) := by
  obtain ⟨p, vs, rfl, hq, ha⟩ := h
  refine ⟨p, rfl, ⟨vs, sqT_up S.ext hq⟩, lc2_fol (walk_tup (xs := vs)) ha.len.symm hm I h0 (fun D s H hI => sqT_up (hG D s H hI) hq) (fun D i x s s' hx hb hr w H H' hI hY => ?_) hd⟩
  obtain ⟨rfl, hw⟩ := hY
  exact hs D i x s s' hb hr w _ hI (ha.at hx hw)
theorem lci_L (S : Sub G O H) (h : (rL K r).rel G v xs) (hm : folM f xs s0 = some s1) (I : τ → Hp → Prop) (h0 : I s0 H) (hG : ∀ s H, I s H → Ext G H)
    (hs : ∀ (i : Nat) (x : α) (s s' : τ), f s x = some s' → folM f (xs.drop (i + 1)) s' = some s1 → ∀ w H, I s H → r.rel G w x → g1 w (wipe σ2 ws1) H (lcTurn tt1 te ws1 σ2 D (PvF f xs s1 I (i + 1))))
    (hd : ∀ H, I s1 H → Nx H) : itL K v H (Lc2In g1 tt1 te ws1 σ2 D Nx) := by
  obtain ⟨p, vs, rfl, hq, ha⟩ := h
  refine ⟨p, rfl, ⟨vs, sqL_up S.ext hq⟩, lci_fol (walk_list (xs := vs)) ha.len.symm hm I h0 (fun s H hI => sqL_up (hG s H hI) hq) (fun i x s s' hx hb hr w H H' hI hY => ?_) hd⟩
  obtain ⟨rfl, hw⟩ := hY
  exact hs i x s s' hb hr w _ hI (ha.at hx hw)
theorem lci_T (S : Sub G O H) (h : (rT K r).rel G v xs) (hm : folM f xs s0 = some s1) (I : τ → Hp → Prop) (h0 : I s0 H) (hG : ∀ s H, I s H → Ext G H)
    (hs : ∀ (i : Nat) (x : α) (s s' : τ), f s x = some s' → folM f (xs.drop (i + 1)) s' = some s1 → ∀ w H, I s H → r.rel G w x → g1 w (wipe σ2 ws1) H (lcTurn tt1 te ws1 σ2 D (PvF f xs s1 I (i + 1))))
    (hd : ∀ H, I s1 H → Nx H) : itT K v H (Lc2In g1 tt1 te ws1 σ2 D Nx) := by
  obtain ⟨p, vs, rfl, hq, ha⟩ := h
  refine ⟨p, rfl, ⟨vs, sqT_up S.ext hq⟩, lci_fol (walk_tup (xs := vs)) ha.len.symm hm I h0 (fun s H hI => sqT_up (hG s H hI) hq) (fun i x s s' hx hb hr w H H' hI hY => ?_) hd⟩
  obtain ⟨rfl, hw⟩ := hY
  exact hs i x s s' hb hr w _ hI (ha.at hx hw)
end
section
variable {τ : Type} {l : Wrd} {f : τ → Wrd → Option τ} {s0 s1 : τ} {g1 : TG} {tt1 : TT} {te : TE} {ws1 : List Nat} {σ2 : L2.St} {H : Hp} {D : Addr} {Nx : Hp → Prop}
theorem lci_S (hm : folM f (sgT l) s0 = some s1) (I : τ → Hp → Prop) (h0 : I s0 H)
    (hs : ∀ (i : Nat) (x : Wrd) (s s' : τ), f s x = some s' → folM f ((sgT l).drop (i + 1)) s' = some s1 → ∀ H, I s H → g1 (.str (e_T x)) (wipe σ2 ws1) H (lcTurn tt1 te ws1 σ2 D (PvF f (sgT l) s1 I (i + 1))))
    (hd : ∀ H, I s1 H → Nx H) : itS (.str (e_T l)) H (Lc2In g1 tt1 te ws1 σ2 D Nx) := by
  refine ⟨_, rfl, lci_fol (walk_str (z := e_T l)) (by simp [sgT, e_T]) hm I h0 (fun _ _ _ => True.intro) (fun i x s s' hx hb hr w H H' hI hY => ?_) hd⟩
  obtain ⟨rfl, c, h1, rfl⟩ := hY
  obtain rfl := sg_at hx h1
  exact hs i [c] s s' hb hr _ hI
end
end Mr

set_option Elab.async false
set_option linter.all false
set_option maxRecDepth 100000
set_option maxHeartbeats 1000000
/-! GtA: a generator that sleeps while its consumer works: its frame is taken up again in the consumer's heap. -/
namespace GFr
open PySem PySem.Spec PyProof.Rows L2 GenW
/-! ### the part of a heap that is older than L -/
def below (s : Shared) (L : Nat) : Shared := { s with heap := { s.heap with objs := s.heap.objs.extract 0 L } }
theorem below_get {s : Shared} {L b : Nat} (h : b < L) : (below s L).heap.get? b = s.heap.get? b := by
  have e : (s.heap.objs.extract 0 L)[b]? = s.heap.objs[b]? := by
    rw [Array.getElem?_extract]
    by_cases c : b < s.heap.objs.size
    · rw [if_pos (by omega), Nat.zero_add]
    · rw [if_neg (by omega), Array.getElem?_eq_none (by omega)]
  unfold below Heap.get?
  simp only [e]
theorem below_lt {s : Shared} {L b : Nat} {o : Obj} (h : (below s L).heap.get? b = some o) : b < L := by
  have := Heap.lt_size h
  have e : (below s L).heap.objs.size = min L s.heap.objs.size - 0 := by
    show (s.heap.objs.extract 0 L).size = _
    rw [Array.size_extract]
  have h2 : b < min L s.heap.objs.size - 0 := by rw [← e]; exact this
  omega
theorem below_some {s : Shared} {L b : Nat} {o : Obj} (h : (below s L).heap.get? b = some o) : s.heap.get? b = some o := by
  rw [← below_get (below_lt h)]; exact h
theorem below_size {s : Shared} {L : Nat} (h : L ≤ s.heap.objs.size) : (below s L).heap.objs.size = L := by
  show (s.heap.objs.extract 0 L).size = _
  rw [Array.size_extract]; omega
/-! ### a generator's activation -/
structure Gp where
  P : Program
  w : World
  K : PySem.W.Frag
  mg : Str → Option Value
  base : Heap
  N : List Str
  qual : Str
  scope : Scope
  f : Addr
  cd : Value
  A : Around
  outer : List Env
  L : Nat
  go : Addr × Obj
  c : Addr
  ci : Nat
  cv : V
/-- the one cell of the frame, as the consumer keeps it -/
def Gp.cellO (g : Gp) : HO := .ext fun h => ∃ u, h.IsCell g.c (some u) ∧ RelV g.cv u
def Gp.env (g : Gp) : Env := envOfC g.qual g.scope g.L g.f g.cd
def Gp.cx (g : Gp) (s0 : Shared) (H0 : Hp) : Cx where
  prog := g.P
  w := g.w
  K := g.K
  mg := g.mg
  base := g.base
  A := g.A.deeper g.env
  N := g.N
  s_0 := below s0 g.L
  H_0 := H0
  env := g.env
  outer := g.outer
  stack := g.env :: g.outer
  ex := []
  calm := true
  fn := fun _ => true
  pn := []
  xe := fun _ _ => False
/-- what stays true of it: one cell; its callers' frames are older -/
structure Gp.Ok (g : Gp) : Prop where
  nd : g.N.Nodup
  cell : ∃ x, g.N[g.ci]? = some x ∧ g.scope.names.lookup x = some .cell ∧ ∀ y d, g.env.cells.lookup y = some d ↔ (y = x ∧ d = g.c)
  lc : g.L < g.c
  frs : ∀ b ∈ frs g.outer, b < g.L
  based : g.base.objs.size ≤ g.L
/-- it may be woken in s2, where the consumer's heap is H2 -/
structure Awake (g : Gp) (ip : List (Addr × Obj)) (s s2 : Shared) (H2 : Hp) : Prop where
  bare : AllBare s2.gens
  frame : ∀ o, s.heap.get? g.L = some o → s2.heap.get? g.L = some o
  pins : ∀ p ∈ ip, s2.heap.get? p.1 = some p.2 ∧ H2 p.1 = Option.none
  free : H2 g.L = Option.none
  cell : ∃ u, s2.heap.IsCell g.c (some u) ∧ RelV g.cv u
  freeC : H2 g.c = Option.none
  hok : HOk g.P g.w H2 s2.heap
  bs : ∀ b o, g.base.get? b = some o → s2.heap.get? b = some o ∧ H2 b = Option.none
  funs : s2.heap.FunFrames g.base g.outer
  frf : ∀ b ∈ frs g.outer, H2 b = Option.none
theorem funs_below {s : Shared} {base : Heap} {L : Nat} : ∀ {l : List Env}, (∀ b ∈ frs l, b < L) → s.heap.FunFrames base l → (below s L).heap.FunFrames base l
  | [], _, _ => True.intro
  | env :: r, hb, h => by
    obtain ⟨hk, ⟨F, o, hf, hn, ho, hd⟩, hr⟩ := h
    have hm : F ∈ frs (env :: r) := by
      unfold frs
      rw [List.filterMap_cons, hf]
      exact List.mem_cons_self ..
    refine ⟨hk, ⟨F, o, hf, hn, ?_, hd⟩, funs_below (fun b q => hb b ?_) hr⟩
    · rw [below_get (hb F hm)]; exact ho
    · unfold frs at q ⊢
      rw [List.filterMap_cons, hf]
      exact List.mem_cons_of_mem _ q
section
variable {g : Gp} {ip : List (Addr × Obj)} {σ : L2.St} {H H0 H2 : Hp} {s0 s s2 : Shared}
theorem Gp.lt (I : Inv (g.cx s0 H0) ip σ H s) : g.L < s.heap.objs.size := by
  obtain ⟨m, ⟨o, es, ep, ho, _⟩, _⟩ := I.loc
  exact Heap.lt_size ho
theorem awake_lt (I : Inv (g.cx s0 H0) ip σ H s) (a : Awake g ip s s2 H2) : g.L < s2.heap.objs.size := by
  obtain ⟨m, ⟨o, es, ep, ho, _⟩, _⟩ := I.loc
  exact Heap.lt_size (a.frame o ho)
theorem Gp.Ok.at (G : g.Ok) {y : Str} {d : Addr} (h : g.env.cells.lookup y = some d) : d = g.c := by
  obtain ⟨x, _, _, q⟩ := G.cell
  exact ((q y d).mp h).2
/-- what the cell holds -/
theorem Gp.held (G : g.Ok) (I : Inv (g.cx s0 H0) ip σ H s) (hv : σ[g.ci]? = some (some g.cv)) : ∃ u, s.heap.IsCell g.c (some u) ∧ RelV g.cv u := by
  obtain ⟨x, h1, h2, h3⟩ := G.cell
  obtain ⟨m, _, hl⟩ := I.loc
  obtain ⟨u, r, lk⟩ := hl g.ci x g.cv h1 hv (.inr (.inl h2))
  rcases lk with ⟨z, _⟩ | ⟨_, c, z, q⟩
  · have z' : g.scope.names.lookup x = some .local := z
    rw [h2] at z'
    cases z'
  · obtain rfl : c = g.c := G.at z
    exact ⟨u, q, r⟩
/-- woken: the frame stands as it was -/
theorem rewake (G : g.Ok) (I : Inv (g.cx s0 H0) ip σ H s) (hv : σ[g.ci]? = some (some g.cv)) (a : Awake g ip s s2 H2) : Inv (g.cx s2 H2) ip σ H2 s2 := by
  have hL : g.env.locals = g.L := rfl
  obtain ⟨xc, hx1, hx2, hx3⟩ := G.cell
  obtain ⟨m, hm, hl⟩ := I.loc
  have hm2 : s2.heap.Ns g.L m := ns_keep hm fun o q => a.frame o q
  have lt2 : g.L < s2.heap.objs.size := by
    obtain ⟨o, es, ep, ho, _⟩ := hm2
    exact Heap.lt_size ho
  have sz := below_size (s := s2) (L := g.L) (Nat.le_of_lt lt2)
  refine ⟨⟨I.ok.mod, I.ok.kind, I.ok.glob, I.ok.blt, ?_, I.ok.inj, I.ok.has, ?_, I.ok.hd, I.ok.frames, I.ok.stk, ?_, ?_, ?_, ?_, ?_, ?_, a.frf⟩, rfl, a.bare, ?_, ⟨m, hm2, fun i x v h1 h2 h3 => ?_⟩, ?_, a.free, ?_, ?_, a.hok, I.len⟩
  · show (below s2 g.L).heap.objs.size ≤ g.L
    rw [sz]; exact Nat.le_refl _
  · intro x c _ h
    rw [G.at (show g.env.cells.lookup x = some c from h)]
    show (below s2 g.L).heap.objs.size ≤ g.c
    rw [sz]; exact Nat.le_of_lt G.lc
  · intro b hb
    exact absurd (show b ∈ ([] : List Addr) from hb) (by simp)
  · intro b o h
    have h' : g.base.get? b = some o := h
    obtain ⟨q1, q2⟩ := a.bs b o h'
    refine ⟨?_, q2⟩
    show (below s2 g.L).heap.get? b = some o
    rw [below_get (Nat.lt_of_lt_of_le (Heap.lt_size h') G.based)]
    exact q1
  · show g.base.objs.size ≤ (below s2 g.L).heap.objs.size
    rw [sz]; exact G.based
  · intro b o _ hb
    exact absurd (show b ∈ ([] : List Addr) from hb) (by simp)
  · intro b hb
    exact absurd (show b ∈ ([] : List Addr) from hb) (by simp)
  · exact funs_below G.frs a.funs
  · exact ⟨fun b o h _ _ _ => below_some h, fun b o h _ _ _ => ⟨o.slots, below_some h⟩, fun b o _ n _ => n, fun b o h _ => ⟨o, below_some h⟩, fun b xs h => h, fun b o u h => h, fun b ps h => ⟨#[], by rw [show H2 b = some (HO.tbl ps) from h]; simp⟩⟩
  · obtain ⟨u, r, lk⟩ := hl i x v h1 h2 h3
    rcases lk with z | ⟨z1, c, z, q⟩
    · exact ⟨u, r, .inl z⟩
    · obtain ⟨hxe, hce⟩ := (hx3 x c).mp z
      obtain ⟨u2, q2, r2⟩ := a.cell
      have hi : i = g.ci := nodup_ix G.nd h1 (by rw [hxe]; exact hx1)
      subst hi
      rw [hv] at h2
      cases h2
      exact ⟨u2, r2, .inr ⟨z1, c, z, by rw [hce]; exact q2⟩⟩
  · intro x c h
    rw [G.at (show g.env.cells.lookup x = some c from h)]
    obtain ⟨u, q, _⟩ := a.cell
    exact ⟨_, q⟩
  · intro x c h
    rw [G.at (show g.env.cells.lookup x = some c from h)]
    exact a.freeC
  · intro p hp
    have hp' : p ∈ ip := (List.mem_append.mp hp).elim (fun z => absurd (show p ∈ ([] : List (Addr × Obj)) from z) (by simp)) id
    obtain ⟨_, _, q3, q4, q5⟩ := I.pin p (List.mem_append_right _ hp')
    exact ⟨(a.pins p hp').1, (a.pins p hp').2, q3, q4, q5⟩
/-- what a segment leaves, for the one that it came from -/
theorem Inv.seg {X : Cx} {pins : List (Addr × Obj)} {σc : L2.St} (C : Inv X pins σc H0 s0) (G : g.Ok) (I : Inv (g.cx s0 (ItX.dropH H0 g.c)) ip σ H s) (hcell : ∃ u, s.heap.IsCell g.c (some u) ∧ RelV g.cv u) (hH : ∀ u, H0 g.c = some u → u = g.cellO)
    (ho : X.stack = g.outer) (hP : X.prog = g.P) (hw : X.w = g.w) (hX : X.s_0.heap.objs.size ≤ g.L) (hl : X.env.locals < g.L) (hc : ∀ x c, X.env.cells.lookup x = some c → c < g.L) (hp : ∀ p ∈ X.pn ++ pins, p.1 < g.L)
    (hs : s.os = s0.os) : Inv X pins σc (upd H g.c g.cellO) s := by
  have hge : ∀ b : Nat, b ∈ List.range' g.L (s0.heap.objs.size - g.L) → g.L ≤ b := fun b hb => (List.mem_range'_1.mp hb).1
  have hin : ∀ (b : Nat) (o : Obj), s0.heap.get? b = some o → b ∉ List.range' g.L (s0.heap.objs.size - g.L) → b < g.L := fun b o h hb => by
    have h1 : b < s0.heap.objs.size := Heap.lt_size h
    rcases Nat.lt_or_ge b g.L with c | c
    · exact c
    · have h2 : b < g.L + (s0.heap.objs.size - g.L) := by
        rw [Nat.add_sub_cancel' (Nat.le_trans c (Nat.le_of_lt h1))]
        exact h1
      exact absurd (List.mem_range'_1.mpr ⟨c, h2⟩) hb
  have B : Un (frs g.outer) [] (ItX.dropH H0 g.c) H (below s0 g.L).heap s.heap := I.base
  have gb : ∀ b o, s0.heap.get? b = some o → b ∉ List.range' g.L (s0.heap.objs.size - g.L) → (below s0 g.L).heap.get? b = some o := fun b o h hb => by rw [below_get (hin b o h hb)]; exact h
  have nc : ∀ b o, s0.heap.get? b = some o → b ∉ List.range' g.L (s0.heap.objs.size - g.L) → b ≠ g.c := fun b o h hb => Nat.ne_of_lt (Nat.lt_trans (hin b o h hb) G.lc)
  have dn : ∀ b o, s0.heap.get? b = some o → b ∉ List.range' g.L (s0.heap.objs.size - g.L) → H0 b = none → ItX.dropH H0 g.c b = none := fun b o h hb n => by rw [ItX.dropH_ne (nc b o h hb)]; exact n
  have hk : ∀ b u, H0 b = some u → u ≠ g.cellO → b ≠ g.c ∧ ItX.dropH H0 g.c b = some u := fun b u e n => by
    have hb : b ≠ g.c := fun z => n (hH u (by rw [← z]; exact e))
    exact ⟨hb, by rw [ItX.dropH_ne hb]; exact e⟩
  have hcn : H g.c = none := by
    obtain ⟨x, _, _, q⟩ := G.cell
    exact I.freeC x g.c ((q x g.c).mpr ⟨rfl, rfl⟩)
  refine C.call' (ch := List.range' g.L (s0.heap.objs.size - g.L)) hs ?_ ?_ I.bare fun b hb => ?_
  · rw [ho]
    refine ⟨fun b o h n hf hb => B.keep b o (gb b o h hb) (dn b o h hb n) hf (by simp), fun b o h n hf hb => B.slot b o (gb b o h hb) (dn b o h hb n) hf (by simp), fun b o h n hb => ?_, fun b o h hb => B.there b o (gb b o h hb) (by simp), fun b xs e => ?_, fun b o u e => ?_, fun b ps e => ?_⟩
    · rw [upd_ne (nc b o h hb)]; exact B.free b o (gb b o h hb) (dn b o h hb n) (by simp)
    · obtain ⟨h1, h2⟩ := hk b _ e (fun z => by cases z)
      rw [upd_ne h1]; exact B.tups b xs h2
    · obtain ⟨h1, h2⟩ := hk b _ e (fun z => by cases z)
      rw [upd_ne h1]; exact B.frzs b o u h2
    · obtain ⟨h1, h2⟩ := hk b _ e (fun z => by cases z)
      obtain ⟨more, q⟩ := B.tbls b ps h2
      exact ⟨more, by rw [upd_ne h1]; exact q⟩
  · rw [hP, hw]
    refine HOk.laidN (P := g.P) (w := g.w) I.hok (fun _ _ z => z) hcn ?_
    obtain ⟨u, q, r⟩ := hcell
    obtain ⟨o, q1, q2⟩ := id q
    refine ⟨⟨u, q, r⟩, ⟨o, q1⟩, fun h1 h2 ⟨u', ⟨o', z1, z2⟩, r'⟩ k => ⟨u', ⟨o', k o' z1, z2⟩, r'⟩⟩
  · have := hge b hb
    exact ⟨.inr (Nat.le_trans hX this), Nat.ne_of_gt (Nat.lt_of_lt_of_le hl this), fun x c h => Nat.ne_of_lt (Nat.lt_of_lt_of_le (hc x c h) this), fun p hq => Nat.ne_of_lt (Nat.lt_of_lt_of_le (hp p hq) this)⟩
end
end GFr

set_option Elab.async false
set_option linter.all false
set_option maxRecDepth 100000
set_option maxHeartbeats 1000000
/-! SgX: a segment of a generator's run, with any wish about how it ends: what sleeps is seen. -/
namespace GFr
open PySem
open Sem (wp)
def SegX (M : Model) (A : Around) (Φ : End → Shared → Prop) (c : Code) (t : Sem PySem.Fin) (fs : List Frame) (s : Shared) : Prop := ∀ (Γ : Ctx) (p : Pos), Γ.code = c → Γ.Woken A → ∃ e s', Runs M Γ p t fs s e s' ∧ Φ e s'
section
variable {M : Model} {A : Around} {Φ : End → Shared → Prop} {c : Code} {fs : List Frame} {s : Shared} {env : Env} {α β : Type}
theorem sx_wrap {m : Sem α} {K : α → Sem PySem.Fin} {J : Value → Sem PySem.Fin} {gd : Bool → Bool} {lv : List Value → List Value}
    (h : wpAny M (A.over c fs) m (fun a s' => SegX M A Φ c (K a) fs s') (fun x s' => SegX M A Φ c (J x) fs s') s) : SegX M A Φ c (m.wrap K J gd lv) fs s := by
  intro Γ p hc hw
  subst hc
  exact runs_wrap_of_wp K J gd lv m (h (Γ.over fs) p (hw.over fs)) (fun a p' s' q => q Γ p' rfl hw) (fun x p' s' q => q Γ p' rfl hw)
theorem sx_bind {m : Sem α} {K : α → Sem PySem.Fin} (h : wpAny M (A.over c fs) m (fun a s' => SegX M A Φ c (K a) fs s') (fun x s' => SegX M A Φ c (.raise x) fs s') s) : SegX M A Φ c (m >>= K) fs s := by
  rw [Sem.bind_eq_wrap']
  exact sx_wrap h
theorem sx_at {p' : Pos} {k : Unit → Sem PySem.Fin} (h : SegX M A Φ c (k ()) fs s) : SegX M A Φ c (.at p' k) fs s :=
  sx_wrap (m := standAt p') (K := k) (J := .raise) (gd := id) (lv := id) (wpAny_standAt h)
theorem sx_point {l : List Value} {k : Unit → Sem PySem.Fin} (h : SegX M A Φ c (k ()) fs s) : SegX M A Φ c (.point l k) fs s :=
  sx_wrap (m := point) (K := k) (J := .raise) (gd := id) (lv := fun _ => l) (wpAny_point h)
theorem sx_call {c' : Code} {h g l} {k : Result → Sem PySem.Fin} (hc : ∀ p, SegX M A Φ c' (M.den c') (.ret k h g l c p [] :: fs) s) : SegX M A Φ c (.call c' h g l k) fs s := by
  intro Γ p hc' hw
  subst hc'
  obtain ⟨e, s', r, q⟩ := hc p (Γ.goto c') p rfl (hw.goto c')
  exact ⟨e, s', runs_call_seg r, q⟩
theorem sx_leaf {k h g l c₁ p₁ kp} (r : Result) (hk : SegX M A Φ c₁ (k r) fs s) : SegX M A Φ c (leafOf r) (.ret k h g l c₁ p₁ kp :: fs) s := by
  intro Γ p hc hw
  subst hc
  obtain ⟨e, s', q, z⟩ := hk (Γ.goto c₁) p₁ rfl (hw.goto c₁)
  exact ⟨e, s', Runs.pop r q, z⟩
theorem sx_again {c' : Code} (hq : c'.quiet = true) (hc : SegX M A Φ c' (M.den c') fs s) : SegX M A Φ c (.pure (.again c')) fs s := by
  intro Γ p hc' hw
  subst hc'
  obtain ⟨e, s', q, z⟩ := hc (Γ.goto c') p rfl (hw.goto c')
  exact ⟨e, s', Runs.head (c₁ := c') (fun _ _ x => .again hq x) q, z⟩
theorem sx_end (r : Result) (h : Φ (.ret r) s) : SegX M A Φ c (leafOf r) [] s := by
  intro Γ p hc hw
  subst hc
  exact ⟨.ret r, s, Runs.leaf r, h⟩
theorem sx_yield {v g l} {k : Resume → Sem PySem.Fin} (hfs : splitAtGen fs = none) (h : ∀ p, Φ (.susp v g l k c p fs) s) : SegX M A Φ c (.yield v g l k) fs s := by
  intro Γ p hc hw
  subst hc
  exact ⟨_, s, Runs.yield' fs hfs, h p⟩
theorem sx_bind_wrap {m : Sem α} {K : α → Sem β} {K' : β → Sem PySem.Fin} {J : Value → Sem PySem.Fin} {gd : Bool → Bool} {lv : List Value → List Value} (h : wpAny M (A.over c fs) m (fun a s' => SegX M A Φ c ((K a).wrap K' J gd lv) fs s') (fun x s' => SegX M A Φ c (J x) fs s') s) :
    SegX M A Φ c ((m >>= K).wrap K' J gd lv) fs s := by
  rw [Sem.bind_eq_wrap', Sem.wrap_wrap]
  exact sx_wrap h
theorem sx_bind2 {γ : Type} {m : Sem α} {f : α → Sem β} {f2 : β → Sem γ} {K : γ → Sem PySem.Fin} {J : Value → Sem PySem.Fin} {gd : Bool → Bool} {lv : List Value → List Value}
    (h : wpAny M (A.over c fs) m (fun a s' => SegX M A Φ c ((f a).wrap (fun b => (f2 b).wrap K J gd lv) J gd lv) fs s') (fun x s' => SegX M A Φ c (J x) fs s') s) : SegX M A Φ c (((m >>= f) >>= f2).wrap K J gd lv) fs s := by
  rw [Sem.bind_eq_wrap' (m >>= f) f2, Sem.wrap_wrap]
  exact sx_bind_wrap h
section
variable {K : Flow → Sem PySem.Fin} {J : Value → Sem PySem.Fin} {gd : Bool → Bool} {lv : List Value → List Value}
theorem sx_execs_nil (h : SegX M A Φ c (K .next) fs s) : SegX M A Φ c ((execs [] env).wrap K J gd lv) fs s := h
theorem sx_execs_cons {st : Stmt} {rest : List Stmt} (h : SegX M A Φ c ((exec st env).wrap (fun f => match f with | .next => (execs rest env).wrap K J gd lv | f => K f) J gd lv) fs s) : SegX M A Φ c ((execs (st :: rest) env).wrap K J gd lv) fs s := by
  rw [execs_cons_wrap]
  exact h
theorem sx_Expr_Yield {e : Expr} {yp pos : Pos} (hfs : splitAtGen fs = none)
    (h : wpAny M (A.over c fs) (eval e env) (fun v s' => ∀ (l : List Value) (k : Resume → Sem PySem.Fin) (p : Pos), (∀ s2, SegX M A Φ c (K .next) fs s2 → SegX M A Φ c (k (.send .none)) fs s2) → (∀ (Φ' : End → Shared → Prop) s2, SegX M A Φ' c (K .next) fs s2 → SegX M A Φ' c (k (.send .none)) fs s2) → Φ (.susp v (gd false) l k c p fs) s')
      (fun x s' => SegX M A Φ c (J x) fs s') s) (hco : env.scope.isCoroutine = false := by rfl) (hi : interactive env = false := by rfl) :
    SegX M A Φ c ((exec (.Expr (.Yield (some e) yp) pos) env).wrap K J gd lv) fs s := by
  rw [exec_Expr env _ pos hi rfl]
  have hy : ∀ v, yieldOut env v = yieldValue v := fun v => by simp only [yieldOut, hco, Bool.false_eq_true, if_false]
  show SegX M A Φ c (.at pos fun _ => ((eval e env >>= fun v => (standAt yp >>= fun _ => yieldOut env v)) >>= fun x => dropValue (.Yield (some e) yp) pos x).wrap K J gd lv) fs s
  simp only [hy]
  refine sx_at ?_
  rw [Sem.bind_eq_wrap', Sem.bind_eq_wrap', Sem.wrap_wrap, Sem.wrap_wrap]
  refine sx_wrap (wpAny_mono h (fun v s' q => ?_) fun _ _ z => z)
  exact sx_at (sx_yield hfs fun p => q _ _ p (fun s2 z => z) (fun Φ' s2 z => z))
theorem sx_For {target iter : Expr} {body : List Stmt} {pos : Pos} (hs : ∀ x, foldedSetIterable iter env x = pure x := by intro _; rfl)
    (h : wpAny M (A.over c fs) (eval iter env) (fun x s1 => wpAny M (A.over c fs) (pyIter x) (fun it s2 => ∀ p, SegX M A Φ (.forLoop target it body [] env) (M.den (.forLoop target it body [] env))
      (.ret (fun r => ((match r with | .ok f => (.pure f : Sem Flow) | .error e => .raise e).onRaise (L2.cameBack env)).wrap K J gd lv) none (gd false) (lv []) c p [] :: fs) s2) NoX s1) NoX s) :
    SegX M A Φ c ((exec (.For target iter body [] pos) env).wrap K J gd lv) fs s := by
  rw [exec_For, Sem.bind_eq_wrap', Sem.wrap_wrap]
  refine sx_wrap (wpAny_standAt ?_)
  rw [Sem.bind_eq_wrap', Sem.wrap_wrap]
  refine sx_wrap (wpAny_mono h (fun x s1 h1 => ?_) fun _ _ z => z.elim)
  rw [Sem.bind_eq_wrap', Sem.wrap_wrap]
  refine sx_wrap (wpAny_of_eq (hs x) ?_)
  rw [Sem.bind_eq_wrap', Sem.wrap_wrap]
  refine sx_wrap (wpAny_standAt ?_)
  rw [Sem.bind_eq_wrap', Sem.wrap_wrap]
  exact sx_wrap (wpAny_holding (wpAny_mono h1 (fun it s2 h2 => sx_call h2) fun _ _ z => z.elim))
end
end
section
variable {prog : Program} {w : World} {A : Around} {Φ : End → Shared → Prop} {fs : List Frame} {s : Shared} {env : Env}
theorem sx_func {body : List Stmt} (h : SegX (model prog w) A Φ (.func body env) ((execs body env).wrap (fun f => .pure (.done (.ret (match f with | .ret v => v | _ => .none)))) (fun e => (leaving env e).wrap (fun _ => .raise e) .raise id id) id id) fs s) :
    SegX (model prog w) A Φ (.func body env) ((model prog w).den (.func body env)) fs s := by
  show SegX _ A Φ _ (.point [] fun _ => ((execs body env).onRaise (leaving env)) >>= _) fs s
  refine sx_point ?_
  rw [Sem.onRaise_eq_wrap, Sem.bind_eq_wrap', Sem.wrap_wrap, Sem.wrap_congr (execs body env) _ _ (K' := fun f => .pure (.done (.ret (match f with | .ret v => v | _ => .none)))) (H' := fun e => (leaving env e).wrap (fun _ => .raise e) .raise id id) (fun f => by cases f <;> rfl) (fun e => by rw [Sem.bind_eq_wrap, Sem.wrap_wrap]; rfl)]
  exact h
theorem sx_forLoop {target : Expr} {it : Value} {body : List Stmt}
    (h : wpAny (model prog w) (A.over (.forLoop target it body [] env) fs) (pyNext it) (fun r s' => match r with
      | none => SegX (model prog w) A Φ (.forLoop target it body [] env) (.pure (.again (.block [] env))) fs s'
      | some v => wpAny (model prog w) (A.over (.forLoop target it body [] env) fs) (letOwnedTupleGo target it v) (fun _ s1 => wpAny (model prog w) (A.over (.forLoop target it body [] env) fs) (assign target env v)
          (fun _ s2 => SegX (model prog w) A Φ (.forLoop target it body [] env) ((execs body env).wrap (turnK target it body env) (turnJ env) id id) fs s2) NoX s1) NoX s') NoX s) :
    SegX (model prog w) A Φ (.forLoop target it body [] env) ((model prog w).den (.forLoop target it body [] env)) fs s := by
  show SegX _ A Φ _ ((forTurn target it body [] env).onRaise (fun x => do noteFrame x env; theTreesLotGoes x)) fs s
  unfold forTurn
  rw [Sem.onRaise_eq_wrap, Sem.bind_eq_wrap', Sem.wrap_wrap]
  refine sx_wrap (wpAny_standAt ?_)
  rw [Sem.bind_eq_wrap', Sem.wrap_wrap]
  refine sx_wrap (wpAny_onRaise (wpAny_mono h (fun r s' hr => ?_) fun _ _ x => x.elim))
  cases r with
  | none => exact hr
  | some v =>
    dsimp only at hr ⊢
    rw [Sem.bind_eq_wrap', Sem.wrap_wrap]
    refine sx_wrap (wpAny_mono hr (fun _ s1 h1 => ?_) fun _ _ x => x.elim)
    rw [Sem.bind_eq_wrap', Sem.wrap_wrap]
    refine sx_wrap (wpAny_mono h1 (fun _ s2 h2 => ?_) fun _ _ x => x.elim)
    rw [Sem.bind_eq_wrap', Sem.wrap_wrap]
    rw [Sem.wrap_congr (execs body env) _ _ (K' := turnK target it body env) (H' := turnJ env) (fun f => by cases f <;> rfl) (fun e => by
      first | exact Sem.bind_eq_wrap _ _ | (show (do noteFrame e env; theTreesLotGoes e : Sem Unit).bind (fun _ => .raise e) = _; rw [Sem.bind_eq_wrap]; rfl))]
    exact h2
/-! ### a generator is asked for its next item -/
theorem set_size {s : Shared} {g : Nat} {x : GenState} : (s.setGen g x).gens.size = s.gens.size := by simp [Shared.setGen]
theorem runs_size {M : Model} {Γ : Ctx} {p : Pos} {t : Sem PySem.Fin} {fs : List Frame} {s s' : Shared} {e : End} (h : Runs M Γ p t fs s e s') : s.gens.size ≤ s'.gens.size := by
  induction h with
  | call _ _ i1 i2 => exact Nat.le_trans i1 i2
  | resumeFresh _ _ hq _ i1 i2 => simp only [set_size] at i1 i2; exact Nat.le_trans i1 i2
  | resumeSuspended _ _ hq _ i1 i2 => simp only [set_size] at i1 i2; exact Nat.le_trans i1 i2
  | resumeThrowFresh _ _ ih => simp only [set_size] at ih; exact ih
  | newGen _ ih => exact Nat.le_trans (by simp) ih
  | segRet _ _ i1 i2 => exact Nat.le_trans i1 i2
  | segGen _ _ i1 i2 => simp only [set_size] at i2; exact Nat.le_trans i1 i2
  | segSuspGen _ _ hq _ i1 i2 => simp only [set_size] at i2; exact Nat.le_trans i1 i2
  | _ => first | exact Nat.le_refl _ | (rename_i ih; exact ih)
/-- resuming it goes so -/
def GoX (M : Model) (A : Around) (Φ : End → Shared → Prop) (gs : GenState) (s : Shared) : Prop := match gs with
  | .fresh c => SegX M A Φ c (M.den c) [] s
  | .suspended k _ c _ fs _ => SegX M A Φ c (k (.send .none)) fs s
  | _ => False
theorem resumeX {M : Model} {Φ : End → Shared → Prop} {E : Value → Shared → Prop} {g : Nat} {gs : GenState} {l : List Value} {α : Type} {k : GenResult → Sem α} {Q : α → Shared → Prop} (h0 : s.gens[g]? = some gs) (h1 : GoX M A Φ gs (s.setGen g .running))
    (hq : ∀ e s₁, Φ e s₁ → s.gens.size ≤ s₁.gens.size → e.quiet = true ∧ wpAny M A (k e.result) Q E (s₁.setGen g e.genState)) : wpAny M A (.resume g (.send .none) l k) Q E s := by
  intro Γ p hΓ
  have woken : ∀ c, (Γ.wake c p).Woken A := fun c => hΓ.wake c p
  rw [Sem.wp_resume]
  match gs, h0, h1 with
  | .fresh c, h0, h1 =>
    obtain ⟨e₁, s₁, hr, he⟩ := h1 (Γ.wake c p) p rfl (woken c)
    exact ⟨_, _, by unfold Wakes; rw [h0]; exact ⟨e₁, s₁, hr, (hq e₁ s₁ he (by have := runs_size hr; rw [set_size] at this; exact this)).1, rfl, rfl⟩, (hq e₁ s₁ he (by have := runs_size hr; rw [set_size] at this; exact this)).2 Γ p hΓ⟩
  | .suspended k₀ l₀ c₀ p₀ fs₀ cl, h0, h1 =>
    obtain ⟨e₁, s₁, hr, he⟩ := h1 (Γ.wake c₀ p) p₀ rfl (woken c₀)
    exact ⟨_, _, by unfold Wakes; rw [h0]; exact ⟨e₁, s₁, hr, (hq e₁ s₁ he (by have := runs_size hr; rw [set_size] at this; exact this)).1, rfl, rfl⟩, (hq e₁ s₁ he (by have := runs_size hr; rw [set_size] at this; exact this)).2 Γ p hΓ⟩
  | .running, _, h1 => exact h1.elim
  | .finished, _, h1 => exact h1.elim
/-- it sleeps again, or has ended -/
theorem nextX {a : Addr} {g : Nat} {gs : GenState} {Φ : End → Shared → Prop} {E : Value → Shared → Prop} {Q : Option Value → Shared → Prop} (hh : A.handled = none) (hl : s.heap.NoLimit) (hroom : A.depth < recursionLimit) (hG : s.heap.IsGen a g) (h0 : s.gens[g]? = some gs)
    (h1 : GoX (model prog w) A.in1 Φ gs (s.setGen g .running))
    (hY : ∀ v l k c p fs s₁, Φ (.susp v false l k c p fs) s₁ → s.gens.size ≤ s₁.gens.size → (End.susp v false l k c p fs).quiet = true → Q (some v) (s₁.setGen g (End.susp v false l k c p fs).genState))
    (hP : ∀ r s₁, Φ (.ret r) s₁ → r = .ok (.ret .none) ∧ ∀ h', (∀ b o, s₁.heap.get? b = some o → h'.get? b = some o) → Q none { s₁.setGen g .finished with heap := h' })
    (hS : ∀ v gd l k c p fs s₁, Φ (.susp v gd l k c p fs) s₁ → gd = false ∧ (End.susp v gd l k c p fs).quiet = true) : wpAny (model prog w) A (pyNext (.ref a)) Q E s := by
  unfold pyNext
  refine wpAny_bind (wpAny_attempt (wpAny_callSpecial?_slot hG.typeIs slot_gen_next (wpAny_call_entry slot_gen_next hG.typeIs entry_gen_next ?_ (args_gen_next _))))
  show wpAny _ A.in1 (Builtin.Generator.genWake (.ref a) (.send .none)) _ _ s
  unfold Builtin.Generator.genWake
  refine wpAny_bind (wpAny_holding (wpAny_genNumber hG (wpAny_bind (wpAny_genState h0 ?_))))
  cases gs with
  | running => exact h1.elim
  | finished => exact h1.elim
  | _ =>
    refine wpAny_bind (wpAny_roomToWake hl hroom ?_)
    show wpAny _ A.in1 (.resume g (.send .none) [] _) _ _ s
    refine resumeX h0 h1 fun e s₁ he hz => ?_
    cases e with
    | susp v gd l k c p fs =>
      obtain ⟨rfl, hqt⟩ := hS v gd l k c p fs s₁ he
      exact ⟨hqt, wpAny_pure ⟨v, rfl, wpAny_pure (hY v l k c p fs s₁ he hz hqt)⟩⟩
    | ret r =>
      obtain ⟨rfl, hp⟩ := hP r s₁ he
      refine ⟨rfl, ?_⟩
      show wpAny _ A.in1 (newExc (.type "StopIteration") [] >>= _) _ _ _
      refine wpAny_bind ?_
      simp only [newExc, newTuple]
      refine wpAny_bind (wpAny_newObj_type ?_ (by size_fits))
      refine wpAny_bind (m := firstArgMember _ _) (wpAny_of_eq (a := Value.none) (by first | rfl | (simp only [firstArgMember]; rfl)) (wpAny_newObj_type ?_ (by size_fits)))
      simp only [raiseNew]
      refine wpAny_bind (wpAny_bind (wpAny_handled ?_))
      rw [show A.in1.handled = none from hh]
      refine wpAny_throw (wpAny_bind (wpAny_isInstance (T := "StopIteration") (b := true) ⟨_, Heap.get?_push_size _ rfl, rfl⟩ isSubtype_stop ?_))
      exact wpAny_pure (hp _ fun b o hb => Heap.get?_push_of_some _ (Heap.get?_push_of_some _ hb))
end
end GFr

set_option Elab.async false
set_option linter.all false
set_option maxRecDepth 100000
set_option maxHeartbeats 1000000
/-! GtB: the statements of a generator whose consumer may do anything while it sleeps; in worlds. -/
namespace GFr
open PySem PySem.Spec PyProof.Rows L2 GenW Mr
/-- the consumer's world -/
structure Wo where
  G : Hp
  O : Mr.Own
  H : Hp
/-- what is handed out -/
structure Con (α : Type) where
  r : Mr.R α
  xs : List α
variable {α : Type}
/-- how a segment ends, begun in the world W: it has ended, or it sleeps and may be woken in any world that goes on from there -/
def Ph (g : Gp) (C : Con α) (A : Around) : Nat → Wo → Shared → End → Shared → Prop
  | n, W, s₀, .ret r, s => r = .ok (.ret .none) ∧ n = 0 ∧ ∃ (G1 H1 : Hp) (ip : List (Addr × Obj)) (σ : L2.St), Inv (g.cx s₀ W.H) ip σ H1 s ∧ σ[g.ci]? = some (some g.cv) ∧ Ext W.G G1 ∧ Sub G1 W.O H1 ∧ g.go ∈ ip
  | 0, _, _, .susp .., _ => False
  | n + 1, W, s₀, .susp v gd l k c p fs, s => gd = false ∧ (End.susp v gd l k c p fs).quiet = true ∧ ∃ (i : Nat) (x : α) (u : V) (G1 H1 : Hp) (ip : List (Addr × Obj)) (σ : L2.St), n + 1 + i = C.xs.length ∧ C.xs[i]? = some x ∧ RelV u v ∧ Inv (g.cx s₀ W.H) ip σ H1 s ∧ σ[g.ci]? = some (some g.cv) ∧ Ext W.G G1 ∧ Sub G1 W.O H1 ∧
    C.r.rel G1 u x ∧ g.go ∈ ip ∧ (∀ q ∈ ip, g.L ≤ q.1) ∧ ∀ (s2 : Shared) (W2 : Wo), Ext G1 W2.G → Sub W2.G W2.O W2.H → Awake g ip s s2 W2.H → SegX (model g.P g.w) A (Ph g C A n W2 s2) c (k (.send .none)) fs s2
structure GEn where
  nx : Nat → Wo → L2.St → Hp → Prop
  bk : Nat → Wo → L2.St → Hp → Prop := fun _ _ _ _ => False
  ct : Nat → Wo → L2.St → Hp → Prop := fun _ _ _ _ => False
abbrev TGt := GEn → Nat → Wo → L2.St → Hp → Prop
def GEn.at (D : GEn) (i : Nat) (W : Wo) : Ends := { nx := D.nx i W, rt := fun _ _ => False, bk := D.bk i W, ct := D.ct i W }
def GSq (g : Gp) (ip : List (Addr × Obj)) (D : GEn) (i : Nat) (W : Wo) (s₀ : Shared) (fl : Flow) (s : Shared) : Prop := match fl with
  | .next => ∃ σ H, Inv (g.cx s₀ W.H) ip σ H s ∧ D.nx i W σ H
  | .brk => ∃ σ H, Inv (g.cx s₀ W.H) ip σ H s ∧ D.bk i W σ H
  | .cont => ∃ σ H, Inv (g.cx s₀ W.H) ip σ H s ∧ D.ct i W σ H
  | .ret _ => False
structure GPos (g : Gp) (A : Around) (ip : List (Addr × Obj)) (c : Code) (fs : List Frame) (gd : Bool → Bool) : Prop where
  own : g.go ∈ ip
  young : ∀ q ∈ ip, g.L ≤ q.1
  over : A.over c fs = g.A.deeper g.env
  split : splitAtGen fs = none
  guard : fs.any Frame.guarded = false
  gd : gd false = false
def GKt (g : Gp) (C : Con α) (A : Around) (ip : List (Addr × Obj)) (c : Code) (fs : List Frame) (K : Flow → Sem PySem.Fin) (D : GEn) : Prop :=
  ∀ (n i : Nat) (W : Wo) (s₀ s : Shared) (fl : Flow), n + i = C.xs.length → g.L < s₀.heap.objs.size → GSq g ip D i W s₀ fl s → SegX (model g.P g.w) A (Ph g C A n W s₀) c (K fl) fs s
structure GT (g : Gp) (C : Con α) (st : Stmt) (t : TGt) : Prop where
  run : ∀ (A : Around) (ip : List (Addr × Obj)) (n i : Nat) (W : Wo) (s₀ : Shared) (c : Code) (fs : List Frame) (K : Flow → Sem PySem.Fin) (J : Value → Sem PySem.Fin) (gd : Bool → Bool) (lv : List Value → List Value) (s : Shared) (σ : L2.St) (H : Hp) (D : GEn),
    GPos g A ip c fs gd → n + i = C.xs.length → g.L < s₀.heap.objs.size → GKt g C A ip c fs K D → Inv (g.cx s₀ W.H) ip σ H s → t D i W σ H → SegX (model g.P g.w) A (Ph g C A n W s₀) c ((exec st g.env).wrap K J gd lv) fs s
structure GTs (g : Gp) (C : Con α) (sts : List Stmt) (t : TGt) : Prop where
  run : ∀ (A : Around) (ip : List (Addr × Obj)) (n i : Nat) (W : Wo) (s₀ : Shared) (c : Code) (fs : List Frame) (K : Flow → Sem PySem.Fin) (J : Value → Sem PySem.Fin) (gd : Bool → Bool) (lv : List Value → List Value) (s : Shared) (σ : L2.St) (H : Hp) (D : GEn),
    GPos g A ip c fs gd → n + i = C.xs.length → g.L < s₀.heap.objs.size → GKt g C A ip c fs K D → Inv (g.cx s₀ W.H) ip σ H s → t D i W σ H → SegX (model g.P g.w) A (Ph g C A n W s₀) c ((execs sts g.env).wrap K J gd lv) fs s
section
variable {g : Gp} {C : Con α} {st : Stmt} {rest : List Stmt}
/-- a statement that hands out nothing -/
def tGp (t : TS) : TGt := fun D i W σ H => t (D.at i W) σ H
theorem gt_ps {t : TS} (h : ∀ s0 H0, PS (g.cx s0 H0) st t) : GT g C st (tGp t) := by
  refine ⟨fun A ip n i W s₀ c fs K J gd lv s σ H D gp hn hL k I ht => ?_⟩
  refine sx_wrap ?_
  rw [gp.over]
  refine wpAny_mono ((h s₀ W.H).run _ s σ H (D.at i W) I ht) (fun f s' hs => k n i W s₀ s' f hn hL ?_) (fun x s' hx => hx.elim)
  cases f with
  | next => exact hs
  | brk => exact hs
  | cont => exact hs
  | ret v => obtain ⟨_, _, _, _, _, q⟩ := hs; exact q
def tGn : TGt := fun D i W σ H => D.nx i W σ H
theorem gts_nil : GTs g C [] tGn := ⟨fun A ip n i W s₀ c fs K J gd lv s σ H D gp hn hL k I ht => sx_execs_nil (k n i W s₀ s .next hn hL ⟨σ, H, I, ht⟩)⟩
def tGc (t u : TGt) : TGt := fun D i W σ H => t { D with nx := fun i' W' σ' H' => u D i' W' σ' H' } i W σ H
theorem gts_cons {t u : TGt} (a : GT g C st t) (b : GTs g C rest u) : GTs g C (st :: rest) (tGc t u) := by
  refine ⟨fun A ip n i W s₀ c fs K J gd lv s σ H D gp hn hL k I ht => ?_⟩
  refine sx_execs_cons ?_
  refine a.run A ip n i W s₀ c fs _ J gd lv s σ H { D with nx := fun i' W' σ' H' => u D i' W' σ' H' } gp hn hL (fun n' i' W' s₀' s' f hn' hL' hs => ?_) I ht
  cases f with
  | next =>
    obtain ⟨σ', H', I', q⟩ := hs
    exact b.run A ip n' i' W' s₀' c fs K J gd lv s' σ' H' D gp hn' hL' k I' q
  | brk => exact k n' i' W' s₀' s' .brk hn' hL' hs
  | cont => exact k n' i' W' s₀' s' .cont hn' hL' hs
  | ret v => exact hs.elim
def tGif (tc : TT) (tb te : TGt) : TGt := fun D i W σ H => tc σ H fun b H1 => if b = true then tb D i W σ H1 else te D i W σ H1
theorem gt_if {test : Expr} {body orelse : List Stmt} {pos : Pos} {tc : TT} {tb te : TGt} (hc : ∀ s0 H0, PT (g.cx s0 H0) test tc) (hb : GTs g C body tb) (he : GTs g C orelse te) : GT g C (.If test body orelse pos) (tGif tc tb te) := by
  refine ⟨fun A ip n i W s₀ c fs K J gd lv s σ H D gp hn hL k I ht => ?_⟩
  rw [exec_If]
  rw [Sem.bind_eq_wrap', Sem.wrap_wrap]
  refine sx_wrap (wpAny_standAt ?_)
  rw [Sem.bind_eq_wrap', Sem.wrap_wrap]
  refine sx_wrap ?_
  rw [gp.over]
  refine wpAny_mono ((hc s₀ W.H).run _ s σ H _ I ht) (fun b s' ⟨H1, I1, q⟩ => ?_) (fun _ _ z => z.elim)
  cases b with
  | true =>
    rw [if_pos rfl] at q
    exact hb.run A ip n i W s₀ c fs K J gd lv s' σ H1 D gp hn hL k I1 q
  | false =>
    rw [if_neg Bool.false_ne_true] at q
    exact he.run A ip n i W s₀ c fs K J gd lv s' σ H1 D gp hn hL k I1 q
/-! ### yield -/
def tGy (C : Con α) (te : TE) : TGt := fun D i W σ H => te σ H fun u H1 => ∃ (x : α) (G1 : Hp), C.xs[i]? = some x ∧ Ext W.G G1 ∧ Sub G1 W.O H1 ∧ C.r.rel G1 u x ∧ ∀ W2 : Wo, Ext G1 W2.G → Sub W2.G W2.O W2.H → D.nx (i + 1) W2 σ W2.H
theorem gt_yield {e : Expr} {yp pos : Pos} {te : TE} (G : g.Ok) (he : ∀ s0 H0, PE (g.cx s0 H0) e te) (hco : g.env.scope.isCoroutine = false) (hi : interactive g.env = false) :
    GT g C (.Expr (.Yield (some e) yp) pos) (fun D i W σ H => (i < C.xs.length ∧ σ[g.ci]? = some (some g.cv)) ∧ tGy C te D i W σ H) := by
  refine ⟨fun A ip n i W s₀ c fs K J gd lv s σ H D gp hn hL k I ht => ?_⟩
  obtain ⟨⟨hlt, hcv⟩, ht⟩ := ht
  obtain ⟨n, rfl⟩ : ∃ m, n = m + 1 := ⟨n - 1, by omega⟩
  refine sx_Expr_Yield gp.split ?_ hco hi
  rw [gp.over]
  refine wpAny_mono ((he s₀ W.H).run _ s σ H _ I ht) (fun v s' hv => ?_) (fun _ _ z => z.elim)
  obtain ⟨u, H1, I1, rv, x, G1, hx, e1, S1, hr, q⟩ := hv
  intro l kk p _ hk
  refine ⟨gp.gd, ?_, i, x, u, G1, H1, ip, σ, by omega, hx, rv, I1, hcv, e1, S1, hr, gp.own, gp.young, fun s2 W2 e2 S2 a => hk _ s2 ?_⟩
  · simp [End.quiet, gp.gd, gp.guard]
  · exact k n (i + 1) W2 s2 s2 .next (by omega) (awake_lt I1 a) ⟨σ, W2.H, rewake G I1 hcv a, q W2 e2 S2⟩
end
end GFr

set_option Elab.async false
set_option linter.all false
set_option maxRecDepth 100000
set_option maxHeartbeats 1000000
/-! GtC: for, within such a generator; yield from a list. -/
namespace GFr
open PySem PySem.Spec PyProof.Rows L2 GenW Mr
variable {α : Type}
def LpT (tgt : TG) (tb : TGt) (D : GEn) (i : Nat) (W : Wo) (σ : L2.St) (J : It) (H : Hp) : Prop := ∃ P : Nat → Nat → Nat → Wo → L2.St → Hp → Prop, (∃ m, P 0 m i W σ H) ∧ ∀ j m i W σ H, P j m i W σ H →
  (J.stop j H ∧ D.nx i W σ H) ∨ (J.go j H ∧ ∃ N : Nat → Wo → L2.St → Hp → Prop, (∀ i' W' σ' H', N i' W' σ' H' → ∃ m', m' < m ∧ P (j + 1) m' i' W' σ' H') ∧ ∀ x H', J.yld j H x H' → tgt x σ H' fun σ2 H2 => tb { D with nx := N, ct := N, bk := D.nx } i W σ2 H2)
def tGfor (wi : TI) (tgt : TG) (tb : TGt) : TGt := fun D i W σ H => wi σ H (LpT tgt tb D i W σ)
theorem gpos_loop {g : Gp} {A : Around} {c c' : Code} {fs : List Frame} {gd : Bool → Bool} {k : Result → Sem PySem.Fin} {l kp : List Value} {p : Pos} {ip : List (Addr × Obj)} (gp : GPos g A ip c fs gd) (hw : c'.weight = 0) (hu : c'.cUnits = 0)   : GPos g A ip c' (.ret k none (gd false) l c p kp :: fs) id := by
  refine ⟨gp.own, gp.young, (over_loop hw hu).trans gp.over, ?_, ?_, rfl⟩
  · show Option.map _ (splitAtGen fs) = Option.none
    rw [gp.split]
    rfl
  · show (gd false || List.any fs Frame.guarded) = false
    rw [gp.gd, gp.guard]
    rfl
theorem GPos.more {g : Gp} {A : Around} {c : Code} {fs : List Frame} {gd : Bool → Bool} {ip q : List (Addr × Obj)} (gp : GPos g A ip c fs gd) (h : ∀ p ∈ q, g.L ≤ p.1) : GPos g A (ip ++ q) c fs gd :=
  ⟨List.mem_append_left _ gp.own, fun p hp => (List.mem_append.mp hp).elim (gp.young p) (h p), gp.over, gp.split, gp.guard, gp.gd⟩
theorem gt_for {g : Gp} {C : Con α} {tg iter : Expr} {body : List Stmt} {pos : Pos} {wi : TI} {tgt : TG} {tb : TGt} (G : g.Ok) (hi : ∀ s0 H0, PI (g.cx s0 H0) tg iter wi) (hg : ∀ s0 H0, PG (g.cx s0 H0) tg tgt) (hb : GTs g C body tb)
    (hs : ∀ x, foldedSetIterable iter g.env x = pure x := by intro _; rfl) : GT g C (.For tg iter body [] pos) (tGfor wi tgt tb) := by
  refine ⟨fun A ip n i W s₀ c fs K J gd lv s σ H D gp hn hL k I ht => ?_⟩
  refine sx_For hs ?_
  rw [gp.over]
  refine wpAny_mono ((hi s₀ W.H).run _ s σ H _ I ht) (fun v s1 h1 => wpAny_mono h1 (fun itv s2 h2 => ?_) (fun _ _ z => z.elim)) (fun _ _ z => z.elim)
  obtain ⟨it, fp, tn, J0, H2, rfl, I2, T, st2, f2, P0, ⟨m0, w0⟩, turn⟩ := h2
  intro p
  have gl := fun (kk : Result → Sem PySem.Fin) => gpos_loop (k := kk) (c' := .forLoop tg (.ref it) body [] g.env) (l := lv []) (kp := []) (p := p) gp rfl rfl
  have young : ∀ b ∈ fp, g.L ≤ b := fun b hb => by
    rcases (f2 b hb).2.2.2.1 with z | z
    · exact absurd (show b ∈ ([] : List Addr) from z) (by simp)
    · have z' : (below s₀ g.L).heap.objs.size ≤ b := z
      rw [below_size (Nat.le_of_lt hL)] at z'
      exact z'
  have stat : ∀ {s₀' : Shared} {W' : Wo} {H' : Hp}, g.L < s₀'.heap.objs.size → (∀ b ∈ fp, H' b = none) → ∀ b ∈ fp, FpOk (g.cx s₀' W'.H) ip H' b := fun {s₀' W' H'} hL' hn b hb => by
    obtain ⟨_, q1, q2, _, q4, q5⟩ := f2 b hb
    refine ⟨hn b hb, q1, q2, .inr ?_, q4, q5⟩
    show (below s₀' g.L).heap.objs.size ≤ b
    rw [below_size (Nat.le_of_lt hL')]
    exact young b hb
  have loop : ∀ (m j n i : Nat) (W : Wo) (s₀ s : Shared) (σ : L2.St) (H : Hp), n + i = C.xs.length → g.L < s₀.heap.objs.size → P0 j m i W σ H → Inv (g.cx s₀ W.H) ip σ H s → tn j s.heap → (∀ b ∈ fp, H b = none) →
      SegX (model g.P g.w) A (Ph g C A n W s₀) (.forLoop tg (.ref it) body [] g.env) ((model g.P g.w).den (.forLoop tg (.ref it) body [] g.env))
        (.ret (fun r => ((match r with | .ok f => (.pure f : Sem Flow) | .error e => .raise e).onRaise (cameBack g.env)).wrap K J gd lv) none (gd false) (lv []) c p [] :: fs) s := by
    intro m
    induction m using Nat.strongRecOn with
    | ind m ih =>
      intro j n i W s₀ s σ H hn hL w I st hfr
      refine sx_forLoop ?_
      rw [(gl _).over]
      rcases turn j m i W σ H w with ⟨stop, qn⟩ | ⟨go, N, hN, step⟩
      · refine wpAny_mono (T.done (g.cx s₀ W.H) rfl rfl rfl rfl j _ s σ H (fun _ _ => False) I (stat hL hfr) st stop) (fun rr s4 ⟨hr, I4⟩ => ?_) (fun _ _ z => z.elim)
        subst hr
        refine sx_again rfl ?_
        exact sx_leaf (.ok .next) (k n i W s₀ s4 .next hn hL ⟨σ, H, I4, qn⟩)
      · refine wpAny_mono (T.item (g.cx s₀ W.H) rfl rfl rfl rfl j _ s σ H (fun _ _ => False) I (stat hL hfr) st go) (fun rr s4 ⟨u, hr, h4⟩ => ?_) (fun _ _ z => z.elim)
        subst hr
        refine wpAny_mono h4 (fun _ s5 ⟨x, H5, I5, r5, y5, st5, fr5⟩ => ?_) (fun _ _ z => z.elim)
        have I5' := I5.pinned (stat hL fr5) (T.obj _ _ st5)
        refine wpAny_mono ((hg s₀ W.H).run _ s5 σ H5 x u _ I5' r5 (step x H5 y5)) (fun _ s6 ⟨σ6, H6, I6, q6⟩ => ?_) (fun _ _ z => z.elim)
        have G0 := gl (fun r => ((match r with | .ok f => (.pure f : Sem Flow) | .error e => .raise e).onRaise (cameBack g.env)).wrap K J gd lv)
        refine hb.run A (ip ++ pinsAt fp s5.heap) n i W s₀ _ _ _ _ id id s6 σ6 H6 _ (G0.more (fun q hq => young q.1 (of_pinsAt hq).1)) hn hL (fun n' i' W' s₀' s7 f hn' hL' hsp => ?_) I6 q6
        have back : ∀ {σ7 : L2.St} {H7 : Hp}, Inv (g.cx s₀' W'.H) (ip ++ pinsAt fp s5.heap) σ7 H7 s7 → Inv (g.cx s₀' W'.H) ip σ7 H7 s7 ∧ tn (j + 1) s7.heap ∧ ∀ b ∈ fp, H7 b = none := fun {σ7 H7} I7 => by
          have pin : ∀ b ∈ fp, ∀ o, s5.heap.get? b = some o → s7.heap.get? b = some o ∧ H7 b = none := fun b hb o q => by
            have := I7.pin (b, o) (List.mem_append_right _ (List.mem_append_right _ (mem_pinsAt hb q)))
            exact ⟨this.1, this.2.1⟩
          refine ⟨I7.unpinned, T.keep _ _ _ st5 fun b hb o e => (pin b hb o e).1, fun b hb => ?_⟩
          obtain ⟨o, e, _⟩ := T.obj _ _ st5 b hb
          exact (pin b hb o e).2
        have again : ∀ {σ7 : L2.St} {H7 : Hp}, Inv (g.cx s₀' W'.H) (ip ++ pinsAt fp s5.heap) σ7 H7 s7 → N i' W' σ7 H7 → SegX (model g.P g.w) A (Ph g C A n' W' s₀') (.forLoop tg (.ref it) body [] g.env) (.pure (.again (.forLoop tg (.ref it) body [] g.env)))
            (.ret (fun r => ((match r with | .ok f => (.pure f : Sem Flow) | .error e => .raise e).onRaise (cameBack g.env)).wrap K J gd lv) none (gd false) (lv []) c p [] :: fs) s7 := fun {σ7 H7} I7 n7 => by
          obtain ⟨m', hm', w7⟩ := hN i' W' σ7 H7 n7
          obtain ⟨b1, b2, b3⟩ := back I7
          exact sx_again rfl (ih m' hm' (j + 1) n' i' W' s₀' s7 σ7 H7 hn' hL' w7 b1 b2 b3)
        cases f with
        | next => obtain ⟨σ7, H7, I7, n7⟩ := hsp; exact again I7 n7
        | cont => obtain ⟨σ7, H7, I7, n7⟩ := hsp; exact again I7 n7
        | brk =>
          obtain ⟨σ7, H7, I7, q7⟩ := hsp
          exact sx_leaf (.ok .next) (k n' i' W' s₀' s7 .next hn' hL' ⟨σ7, H7, (back I7).1, q7⟩)
        | ret v => exact hsp.elim
  exact loop m0 0 n i W s₀ s2 σ H2 hn hL w0 I2 st2 fun b hb => (f2 b hb).1
end GFr

set_option Elab.async false
set_option linter.all false
set_option maxRecDepth 100000
set_option maxHeartbeats 1000000
/-! GtD: yield from a list, the consumer at work between the items. -/
namespace GFr
open PySem PySem.Spec PyProof.Rows L2 GenW Mr
section
variable {prog : Program} {w : World} {A : Around} {E : Value → Shared → Prop} {z : Shared}
theorem li_item {j l : Addr} {i : Nat} {items : Array Value} {x : Value} {Q : Option Value → Shared → Prop} (hj : z.heap.IsListIter j l i) (hl : z.heap.IsList l items) (hx : items[i]? = some x)
    (hQ : ∀ h', h'.IsListIter j l (i + 1) → Heap.SameBut j z.heap h' → Q (some x) { z with heap := h' }) : wpAny (model prog w) A (callSpecial? (.ref j) "__next__") Q E z := by
  obtain ⟨oj, goj, cj, dj⟩ := id hj
  obtain ⟨ol, gol, _, kl, dl⟩ := hl
  refine wpAny_callSpecial?_slot (name := Str.ofString "__next__") hj.typeIs slot_listiter_next (wpAny_call_entry slot_listiter_next hj.typeIs entry_listiter_next ?_ (args_listiter_next _))
  show wpAny _ _ (field (.ref j) 0 >>= _) _ _ z
  refine wpAny_bind (wpAny_field goj dj (x := .ref l) rfl ?_)
  show wpAny _ _ (if (Value.ref l == Value.none) = true then _ else _) _ _ z
  rw [if_neg (show ¬ ((Value.ref l == Value.none) = true) by intro y; cases y)]
  show wpAny _ _ (field (.ref j) 1 >>= _) _ _ z
  refine wpAny_bind (wpAny_field goj dj (x := .int i 0) rfl ?_)
  show wpAny _ _ (seqItems? (.ref l) >>= _) _ _ z
  refine wpAny_bind (wpAny_seqItems gol dl ?_)
  simp only [Int.toNat_natCast, hx]
  refine wpAny_bind (wpAny_setField goj dj (by simp) (wpAny_pure ⟨x, rfl, hQ _ ?_ (Heap.SameBut.update ..)⟩))
  exact ⟨_, Heap.get?_update_self _ goj (Obj.isFreed_of_fields (Obj.data_mapFields dj _)), (Obj.cls_mapFields ..).trans cj, by rw [Obj.data_mapFields dj]; simp [rawInt]⟩
theorem li_end {j l : Addr} {i : Nat} {items : Array Value} {Q : Option Value → Shared → Prop} (hh : A.handled = none) (hj : z.heap.IsListIter j l i) (hl : z.heap.IsList l items) (hx : items[i]? = none)
    (hE : ∀ e h', StopX e h' → Heap.ExtBut j z.heap h' → E e { z with heap := h' }) : wpAny (model prog w) A (callSpecial? (.ref j) "__next__") Q E z := by
  obtain ⟨oj, goj, cj, dj⟩ := id hj
  obtain ⟨ol, gol, _, kl, dl⟩ := hl
  refine wpAny_callSpecial?_slot (name := Str.ofString "__next__") hj.typeIs slot_listiter_next (wpAny_call_entry slot_listiter_next hj.typeIs entry_listiter_next ?_ (args_listiter_next _))
  show wpAny _ _ (field (.ref j) 0 >>= _) _ _ z
  refine wpAny_bind (wpAny_field goj dj (x := .ref l) rfl ?_)
  show wpAny _ _ (if (Value.ref l == Value.none) = true then _ else _) _ _ z
  rw [if_neg (show ¬ ((Value.ref l == Value.none) = true) by intro y; cases y)]
  show wpAny _ _ (field (.ref j) 1 >>= _) _ _ z
  refine wpAny_bind (wpAny_field goj dj (x := .int i 0) rfl ?_)
  show wpAny _ _ (seqItems? (.ref l) >>= _) _ _ z
  refine wpAny_bind (wpAny_seqItems gol dl ?_)
  simp only [Int.toNat_natCast, hx]
  refine wpAny_bind (wpAny_rule (wpAny_bind (wpAny_setField goj dj (by simp) (show wpAny _ _ (newExc (.type "StopIteration") [] >>= _) _ _ _ from wpAny_bind ?_))))
  simp only [newExc, newTuple]
  refine wpAny_bind (wpAny_newObj_type (wpAny_bind (m := firstArgMember _ _) (wpAny_of_eq (a := Value.none) (by first | rfl | (simp only [firstArgMember]; rfl)) ?_)) (by size_fits))
  refine wpAny_newObj_type (hd := by size_fits) ?_
  simp only [raiseNew]
  refine wpAny_bind (wpAny_handled ?_); first | rw [show A.in1.handled = none from hh] | rw [hh]
  refine wpAny_bind (wpAny_pure (wpAny_throw (hE _ _ ⟨_, _, _, rfl, Heap.get?_push_size _ rfl, rfl, rfl, ?_⟩ (((Heap.SameBut.update ..).extBut.push _).push _))))
  first | rfl | (rw [Array.getElem?_append_left (by decide)]; rfl) | kernel_rfl
end
theorem close_li : typeLookup (.type "list_iterator") "close" = pure none := by rw [typeLookup_type, builtinLookup_eq_fast]; kernel_rfl
variable {α : Type}
/-- the code that hands on what an iterator gives -/
abbrev yfC (it : Addr) : Code := .builtin "proto.yield_from" ⟨[.ref it, .bool false, .none], []⟩
def tGfrom (g : Gp) (C : Con α) (te : TE) : TGt := fun D i W σ H => σ[g.ci]? = some (some g.cv) ∧ te σ H fun v H1 => ∃ (a : Addr) (vs : List V) (ys : List α) (G1 : Hp), v = .ref a ∧ Ext W.G G1 ∧ Sub G1 W.O H1 ∧ G1 a = some (.lst vs) ∧ Al C.r G1 vs ys ∧ (∀ (j : Nat) (y : α), ys[j]? = some y → C.xs[i + j]? = some y) ∧
  (ys = [] → D.nx i W σ H1) ∧ ∀ W2 : Wo, Ext G1 W2.G → Sub W2.G W2.O W2.H → D.nx (i + ys.length) W2 σ W2.H
theorem sub_down {G G1 H : Hp} {O : Mr.Own} (e : Ext G G1) (S : Sub G1 O H) : Sub G O H := by
  refine ⟨e.trans S.ext, fun p hp => ⟨(S.own p hp).1, ?_⟩, S.nd, fun b ps h => S.nt b ps (e _ _ h)⟩
  cases c : G p.1 with
  | none => rfl
  | some u => exact absurd (e _ _ c) (by rw [(S.own p hp).2]; intro y; cases y)
theorem al_at {r : Mr.R α} {G : Hp} : ∀ {vs : List V} {ys : List α} {j : Nat} {y : α}, Al r G vs ys → ys[j]? = some y → ∃ v, vs[j]? = some v ∧ r.rel G v y
  | v :: vs, x :: ys, 0, y, h, e => ⟨v, rfl, by cases e; exact h.1⟩
  | v :: vs, x :: ys, j + 1, y, h, e => al_at (vs := vs) (ys := ys) (j := j) h.2 e
  | [], [], _, _, _, e => by cases e
  | [], _ :: _, _, _, h, _ => h.elim
  | _ :: _, [], _, _, h, _ => h.elim
theorem yf_turns {g : Gp} {C : Con α} {A : Around} {ip : List (Addr × Obj)} {fs : List Frame} {it a : Addr} {σ : L2.St} {vs : List V} {ys : List α} {i0 : Nat} {G0 H10 : Hp} {W0 : Wo} (G : g.Ok) (hov : (A.over (yfC it) fs).handled = Option.none) (hsp : splitAtGen fs = Option.none) (hgd : fs.any Frame.guarded = false) (hown : g.go ∈ ip) (hyg : ∀ q ∈ ip, g.L ≤ q.1)
    (hxs : ∀ (j : Nat) (y : α), ys[j]? = some y → C.xs[i0 + j]? = some y) (hG0 : G0 a = some (.lst vs)) (hal : Al C.r G0 vs ys) (hcv : σ[g.ci]? = some (some g.cv)) (hic : it ≠ g.c) (hyo : g.L ≤ it) (hne : it ≠ g.L) (hfs : it ∉ frs g.outer) (hip : ∀ p ∈ ip, p.1 ≠ it)
    (hend : ∀ (n : Nat) (W : Wo) (G1 H1 : Hp) (s₀ s : Shared), n + (i0 + ys.length) = C.xs.length → g.L < s₀.heap.objs.size → Ext W.G G1 → Sub G1 W.O H1 → ((ys = [] ∧ W = W0 ∧ H1 = H10) ∨ (H1 = W.H ∧ Ext G0 W.G)) → Inv (g.cx s₀ W.H) ip σ H1 s → SegX (model g.P g.w) A (Ph g C A n W s₀) (yfC it) (.pure (.done (.ret .none))) fs s) :
    ∀ (r j n : Nat) (W : Wo) (G1 H1 : Hp) (s₀ s : Shared), j + r = ys.length → n + (i0 + j) = C.xs.length → g.L < s₀.heap.objs.size → Ext W.G G1 → Ext G0 G1 → Sub G1 W.O H1 → ((j = 0 ∧ W = W0 ∧ H1 = H10) ∨ (H1 = W.H ∧ Ext G0 W.G)) → Inv (g.cx s₀ W.H) ip σ H1 s → H1 it = Option.none → s.heap.IsListIter it a j →
      SegX (model g.P g.w) A (Ph g C A n W s₀) (yfC it) ((model g.P g.w).den (yfC it)) fs s := by
  intro r
  have fp : ∀ {s₀ : Shared} {W : Wo} {H1 : Hp}, g.L < s₀.heap.objs.size → H1 it = Option.none → ∀ b ∈ [it], FpOk (g.cx s₀ W.H) ip H1 b := fun {s₀ W H1} hL hn b hb => by
    rw [List.mem_singleton.mp hb]
    refine ⟨hn, hne, hfs, .inr ?_, fun x c h => ?_, fun p hp => ?_⟩
    · show (below s₀ g.L).heap.objs.size ≤ it
      rw [below_size (Nat.le_of_lt hL)]; exact hyo
    · rw [G.at (show g.env.cells.lookup x = some c from h)]; exact Ne.symm hic
    · exact (List.mem_append.mp hp).elim (fun y => absurd (show p ∈ ([] : List (Addr × Obj)) from y) (by simp)) (hip p)
  have turned : ∀ {s₀ s : Shared} {W : Wo} {H1 : Hp} {h' : Heap} {tk : Nat}, g.L < s₀.heap.objs.size → H1 it = Option.none → Inv (g.cx s₀ W.H) ip σ H1 s → (∀ b o, b ≠ it → s.heap.get? b = some o → h'.get? b = some o) → Inv (g.cx s₀ W.H) ip σ H1 { s with heap := h', toks := tk } := fun {s₀ s W H1 h' tk} hL hn I hk => by
    obtain ⟨_, q1, _, q3, q4, q5⟩ := fp (W := W) hL hn it (List.mem_singleton_self it)
    exact I.turned (it := it) hk hn q1 q3 q4 q5
  induction r with
  | zero =>
    intro j n W G1 H1 s₀ s hj hn hL e1 e0 S1 hW I hit st
    have hj' : j = ys.length := by omega
    subst hj'
    obtain ⟨its, rv, pl, hz⟩ := I.list (.inl (.inl (S1.ext _ _ (e0 a _ hG0))))
    have hl := pl.isList
    have hlen : its.toArray[ys.length]? = Option.none := by
      have h1 := rv.length
      have h2 := hal.len
      rw [List.getElem?_toArray]
      exact List.getElem?_eq_none (by omega)
    rw [show (model g.P g.w).den (yfC it) = Builtin.«proto.yield_from» ⟨[.ref it, .bool false, .none], []⟩ from den_yf (X := g.cx s₀ W.H)]
    unfold Builtin.«proto.yield_from»; try dsimp only
    refine sx_bind (wpAny_pure ?_); try dsimp only
    refine sx_bind (wpAny_attempt (wpAny_holding ?_)); rw [if_neg Bool.false_ne_true, if_pos (show (Value.none == Value.none) = true by rfl)]
    refine wpAny_bind (wpAny_rule (wpAny_bind (li_end hov st hl hlen fun e h' hS hk => ?_)))
    obtain ⟨ae, o, fv, rfl, hoa, hcls, hdat, h5⟩ := hS
    try dsimp only
    refine sx_bind (wpAny_endsTurn hoa hcls ?_); try dsimp only
    rw [if_pos rfl]; first | refine sx_bind (wpAny_rule ?_) | (rw [if_neg Bool.false_ne_true]; refine sx_bind (wpAny_rule ?_)) | (rw [if_neg Bool.false_ne_true]; refine sx_bind (wpAny_pure ?_); refine sx_bind (wpAny_rule ?_))
    refine sx_bind (wpAny_field hoa hdat h5 ?_)
    have hWe : (ys = [] ∧ W = W0 ∧ H1 = H10) ∨ (H1 = W.H ∧ Ext G0 W.G) := hW.imp (fun q => ⟨List.length_eq_zero_iff.mp q.1, q.2⟩) id
    exact hend n W G1 H1 s₀ _ hn hL e1 S1 hWe (turned (tk := s.toks) hL hit I fun b o hb eb => hk b o hb eb)
  | succ r ih =>
    intro j n W G1 H1 s₀ s hj hn hL e1 e0 S1 hW I hit st
    have hjl : j < ys.length := by omega
    have hy : ys[j]? = some ys[j] := List.getElem?_eq_getElem hjl
    have hx := hxs j _ hy
    have hxl : i0 + j < C.xs.length := (List.getElem?_eq_some_iff.mp hx).1
    obtain ⟨n, rfl⟩ : ∃ m, n = m + 1 := ⟨n - 1, by omega⟩
    obtain ⟨its, rv, pl, hz⟩ := I.list (.inl (.inl (S1.ext _ _ (e0 a _ hG0))))
    have hl := pl.isList
    obtain ⟨v, hv, hr⟩ := al_at hal hy
    obtain ⟨u, hu, ru⟩ := rv.get hv
    rw [show (model g.P g.w).den (yfC it) = Builtin.«proto.yield_from» ⟨[.ref it, .bool false, .none], []⟩ from den_yf (X := g.cx s₀ W.H)]
    unfold Builtin.«proto.yield_from»; try dsimp only
    refine sx_bind (wpAny_pure ?_); try dsimp only
    refine sx_bind (wpAny_attempt (wpAny_holding ?_)); rw [if_neg Bool.false_ne_true, if_pos (show (Value.none == Value.none) = true by rfl)]
    refine wpAny_bind (wpAny_rule (wpAny_bind (li_item st hl (x := u) (by rw [List.getElem?_toArray]; exact hu) fun h' st' hk => ?_)))
    have I' := turned (tk := s.toks) hL hit I fun b o hb eb => (hk.extBut b o hb eb)
    obtain ⟨oi, hoi, hoc, _⟩ := id st'
    refine wpAny_pure ?_; try dsimp only
    refine sx_bind (wpAny_typeOf (T := "list_iterator") ⟨oi, hoi, hoc⟩ ?_); try dsimp only
    first | (refine sx_bind (wpAny_of_eq close_li ?_); refine sx_bind (wpAny_pure ?_)) | refine sx_bind (wpAny_bind (wpAny_of_eq close_li (wpAny_pure ?_))) | refine sx_bind (wpAny_of_eq close_li ?_)
    try dsimp only
    refine sx_bind (wpAny_sleptOver hoi hoc (by decide) ?_); refine sx_yield hsp fun pp => ?_
    have I2 := I'.pinned (fp hL hit) fun b hb => by
      rw [List.mem_singleton.mp hb]
      obtain ⟨o2, q1, q2, q3⟩ := id st'
      exact ⟨o2, q1, fun v y => by rw [q3] at y; cases y⟩
    refine ⟨rfl, by simp [End.quiet, hgd], i0 + j, ys[j], v, G1, H1, _, σ, by omega, hx, ru, I2, hcv, e1, S1, R.up e0 hr, List.mem_append_left _ hown, fun q hq => (List.mem_append.mp hq).elim (hyg q) (fun y => by rw [List.mem_singleton.mp (of_pinsAt y).1]; exact hyo), fun s2 W2 e2 S2 aw => ?_⟩
    have I3 := rewake G I2 hcv aw
    have hpin : s2.heap.get? it = some oi ∧ W2.H it = Option.none := by
      have := I3.pin (it, oi) (List.mem_append_right _ (List.mem_append_right _ (mem_pinsAt (List.mem_singleton_self it) hoi)))
      exact ⟨this.1, this.2.1⟩
    have st2 : s2.heap.IsListIter it a (j + 1) := st'.at fun o q => by rw [hoi] at q; cases q; exact hpin.1
    show SegX _ _ _ _ (Builtin.Generator.sleptOver (.ref it) false >>= fun _ => _) fs s2
    refine sx_bind (wpAny_sleptOver hpin.1 hoc (by decide) ?_); try dsimp only
    refine sx_bind (wpAny_pure ?_)
    exact sx_again (plainId_quiet plain_yf _) (ih (j + 1) n W2 W2.G W2.H s2 s2 (by omega) (by omega) (awake_lt I2 aw) (.refl _) (e0.trans e2) S2 (.inr ⟨rfl, e0.trans e2⟩) I3.unpinned hpin.2 st2)
theorem gt_from {g : Gp} {C : Con α} {e : Expr} {yp pos : Pos} {te : TE} (G : g.Ok) (hh : g.A.handled = Option.none) (he : ∀ s0 H0, PE (g.cx s0 H0) e te) (hi : interactive g.env = false) : GT g C (.Expr (.YieldFrom e yp) pos) (tGfrom g C te) := by
  refine ⟨fun A ip n i W s₀ c fs K J gd lv s σ H D gp hn hL k I ht => ?_⟩
  obtain ⟨hcv, ht⟩ := ht
  rw [exec_Expr g.env _ pos hi rfl]
  show SegX _ A _ c (.at pos fun _ => ((eval e g.env >>= fun v => (standAt yp >>= fun _ => yieldFrom g.env v)) >>= fun x => dropValue (.YieldFrom e yp) pos x).wrap K J gd lv) fs s
  refine sx_at (sx_bind2 ?_)
  rw [gp.over]
  refine wpAny_mono ((he s₀ W.H).run _ s σ H _ I ht) (fun v s1 hv => ?_) (fun _ _ z => z.elim)
  obtain ⟨x, H1, I1, rx, a, vs, ys, G1, rfl, e1, S1, hG1, hal, hxs, q0, q1⟩ := hv
  obtain rfl : v = Value.ref a := rx
  obtain ⟨its, rv, pl, hz⟩ := I1.list (.inl (.inl (S1.ext _ _ hG1)))
  have hl := pl.isList
  refine sx_at ?_
  show SegX _ A _ c ((yieldFrom g.env (.ref a)).wrap (fun b => (dropValue (.YieldFrom e yp) pos b).wrap K J gd lv) J gd lv) fs s1
  unfold yieldFrom
  refine sx_bind_wrap (wpAny_typeOf (T := "list") hl.typeIs ?_)
  rw [if_neg (show ¬ ((Value.type "list" == Value.type "coroutine") = true) by decide)]
  refine sx_bind_wrap (wpAny_holding ?_)
  rw [gp.over]
  refine wpAny_pyIter_list hl ?_
  refine sx_call fun p => ?_
  have hsz : g.L < s1.heap.objs.size := Gp.lt I1
  have kp : ∀ b o, s1.heap.get? b = some o → (s1.heap.push { cls := .type "list_iterator", data := .fields #[.ref a, .int 0 0] }).get? b = some o := fun b o e => Heap.get?_push_of_some _ e
  have hnf : s1.heap.objs.size ∉ frs g.outer := fun hb => absurd (G.frs _ hb) (Nat.not_lt.mpr (Nat.le_of_lt hsz))
  have hic : s1.heap.objs.size ≠ g.c := fun z => by
    obtain ⟨u, ⟨o, q, _⟩, _⟩ := Gp.held G I1 hcv
    exact absurd (Heap.lt_size q) (by rw [z]; exact Nat.lt_irrefl _)
  have hpin : ∀ q ∈ ip, q.1 ≠ s1.heap.objs.size := fun q hq => Nat.ne_of_lt (Heap.lt_size (I1.pin q (List.mem_append_right _ hq)).1)
  refine yf_turns (it := s1.heap.objs.size) (a := a) (vs := vs) (ys := ys) (i0 := i) (G0 := G1) (H10 := H1) (W0 := W) G ?_ ?_ ?_ gp.own gp.young hxs hG1 hal hcv hic (Nat.le_of_lt hsz) (Nat.ne_of_gt hsz) hnf hpin
    (fun n' W' G2 H2 s₀' s' hn' hL' e2 S2 hW' I' => ?_) ys.length 0 n W G1 H1 s₀ _ (Nat.zero_add _) (by simpa using hn) hL e1 (.refl _) S1 (.inl ⟨rfl, rfl, rfl⟩) (I1.kept (t' := s1.toks) kp) (I1.hok.fresh (Nat.le_refl _)) ⟨_, Heap.get?_push_size _ rfl, rfl, rfl⟩
  · show (A.over c fs).handled = Option.none
    rw [gp.over]; exact hh
  · show Option.map _ (splitAtGen fs) = Option.none
    rw [gp.split]; rfl
  · show (gd false || List.any fs Frame.guarded) = false
    rw [gp.gd, gp.guard]; rfl
  · refine sx_leaf (.ok (.ret .none)) (k n' (i + ys.length) W' s₀' s' .next hn' hL' ⟨σ, H2, I', ?_⟩)
    rcases hW' with ⟨z, rfl, rfl⟩ | ⟨z, z2⟩
    · rw [z, List.length_nil, Nat.add_zero]; exact q0 z
    · rw [z] at S2 ⊢
      exact q1 W' z2 ((show Sub W'.G W'.O W'.H from sub_down e2 S2))
end GFr

set_option Elab.async false
set_option linter.all false
set_option maxRecDepth 100000
set_option maxHeartbeats 1000000
/-! GtE: a call of a generator def makes a generator that has not begun. -/
namespace GFr
open PySem PySem.Spec PyProof.Rows L2 GenW Mr
theorem below_all (s : Shared) : below s s.heap.objs.size = s := by
  have e : s.heap.objs.extract 0 s.heap.objs.size = s.heap.objs := by simp
  unfold below
  rw [e]
theorem start_at {N : List Str} {vs : List V} {i : Nat} {v : V} (h : vs[i]? = some v) : (start N vs)[i]? = some (some v) := by
  have hl : i < vs.length := (List.getElem?_eq_some_iff.mp h).1
  unfold L2.start
  rw [List.getElem?_append_left (by rw [List.length_map]; exact hl), List.getElem?_map, h]
  rfl
/-- the activation that a call makes -/
def gpOf (X : Cx) (A : Around) (N : List Str) (qual : Str) (scope : Scope) (f : Addr) (cd : Value) (L : Nat) (go : Addr × Obj) (ci : Nat) (cv : V) : Gp := ⟨X.prog, X.w, X.K, X.mg, X.base, N, qual, scope, f, cd, A, X.stack, L, go, L + 1, ci, cv⟩
/-- it has not begun -/
structure GtM (X : Cx) (pins : List (Addr × Obj)) (H : Hp) (g : Gp) (body : List Stmt) (vs : List V) (a : Addr) (gn : Nat) (s : Shared) : Prop where
  ok : g.Ok
  isg : s.heap.IsGen a gn
  own : g.go.1 = a ∧ s.heap.get? a = some g.go.2 ∧ g.L ≤ a ∧ ∀ v, g.go.2.data ≠ .cell v
  gs : s.gens[gn]? = some (.fresh (.func body g.env))
  cvs : vs[g.ci]? = some g.cv
  cu : ∃ u, s.heap.IsCell g.c (some u) ∧ RelV g.cv u
  cn : H g.c = Option.none
  ac : a ≠ g.c
  fa : FpOk X pins H a
  fL : FpOk X pins H g.L
  aL : a ≠ g.L
  dict : ∃ o, s.heap.get? g.L = some o ∧ ∀ v, o.data ≠ .cell v
  older : X.s_0.heap.objs.size ≤ g.L ∧ X.env.locals < g.L ∧ (∀ x c, X.env.cells.lookup x = some c → c < g.L) ∧ ∀ p ∈ X.pn ++ pins, p.1 < g.L
  inv : ∃ (sc s1 : Shared), Inv (g.cx sc H) [] (start g.N vs) H s1 ∧ ∀ o, s1.heap.get? g.L = some o → s.heap.get? g.L = some o
/-- a call that binds so -/
theorem made_gt {X : Cx} {pins : List (Addr × Obj)} {σ : L2.St} {H : Hp} {s : Shared} {k : Nat} {x qual : Str} {params : Arguments} {body : List Stmt} {scope : Scope} {dvs : List V} {kws : List (Str × V)} {f : Addr} {fd : FuncData} {N ps : List Str} {args : Args} {us : List Value} {vs : List V}
    {Q : Value → Shared → Prop} (F : FunD X.K x qual params body scope dvs kws f fd) (S : GScope N ps scope) {xc : Str} {ci : Nat} (hcl : ∀ n : Nat, cellsFrom n scope.names [] = [(xc, n)]) (hci : N[ci]? = some xc) (hck : scope.names.lookup xc = some .cell) (hcp : ci < ps.length) (hr : Room k X.A) (I : Inv X pins σ H s) (bd : BindsTo s fd args (ps.zip us)) (r : Vals vs us) (hl : vs.length = ps.length)
    (A' : Around) (hA : A'.frames = some X.stack) (hh : A'.handled = Option.none)
    (h : ∀ (cd : Value) (a gn : Nat) (L : Nat) (go : Addr × Obj) (s' : Shared), Inv X pins σ H s' → GtM X pins H (gpOf X A' N qual scope f cd L go ci ((vs[ci]?).getD .non)) body vs a gn s' → Q (.ref a) s') :
    codeAny (model X.prog X.w) X.A (.call (.ref f) args) (fun rr s' => match rr with | .ok (.ret u) => Q u s' | _ => False) s := by
  obtain ⟨oc, od, dV, kV, doc, pm, an, cdv, ct, osl, rfl, lk, hcd, _, _⟩ := F.ex
  have hkind : ∀ y ∈ ps.zip us, scope.names.lookup y.1 = some .local ∨ (scope.names.lookup y.1 = some .cell ∧ ((cellsFrom (s.heap.objs.size + 1) scope.names []).lookup y.1).isSome = true) := fun ⟨n, v⟩ hy => by
    rcases S.par n (List.of_mem_zip hy).1 with q | q
    · exact .inl q
    · exact .inr ⟨q, PySem.W.cellsFrom_some _ _ _ (.inl q)⟩
  refine codeAny_call_generator hr.depth (I.kIn _ _ lk) rfl S.co S.gen rfl (PySem.W.codeRec_of I.kIn hcd) (bd _ _ _ _ ?_)
  refine wpAny_newFunctionEnv_cells S.kind hkind fun env he s1 hx => ?_
  subst he
  have kp1 := hx.toInCall.keep
  refine ⟨I.nolimit.keeps kp1, ?_⟩
  have e0 : Env0 X.prog X.w X.K X.mg X.base A' X.stack s H := ⟨hA, I.env0.mod, I.env0.bs, I.env0.bsz, I.env0.funs, I.env0.frf, I.env0.hok, I.env0.bare⟩
  have I1 := inv_startG (E := fun _ _ _ => False) S hh e0 hl r hx
  obtain ⟨h1, tk, es1, _⟩ := hx.done
  have ns1 := hx.toInCall.ns
  subst es1
  have lt1 : s.heap.objs.size < h1.objs.size := ns1.lt
  have kp2 : ∀ (o' : Obj) b o, s.heap.get? b = some o → (h1.push o').get? b = some o := fun o' b o q => Heap.get?_push_of_some _ (kp1 b o q)
  have young : ∀ b, s.heap.objs.size ≤ b → FpOk X pins H b := fun b hb => I.fpOk hb (I.hok.fresh hb)
  have Ig : ∀ go, Inv ((gpOf X A' N qual scope f cdv s.heap.objs.size go ci ((vs[ci]?).getD .non)).cx s H) [] (start N vs) H { s with heap := h1, toks := tk } := fun go => by
    have e : (gpOf X A' N qual scope f cdv s.heap.objs.size go ci ((vs[ci]?).getD .non)).cx s H = (gcxOf X.prog X.w X.K X.mg X.base N qual scope f cdv A' X.stack s H (fun _ _ _ => False) []).wish (fun _ _ => False) := by
      unfold Gp.cx gpOf
      rw [below_all]
      rfl
    rw [e]
    exact I1.wish _
  have main : ∀ (gob : Obj) (tk2 : Nat), gob.cls = .type "generator" → gob.slots = #[] → (∃ nm qn, gob.data = .fields #[.int s.gens.size 0, nm, qn]) → (∀ v, gob.data ≠ .cell v) → (∀ hh : Heap, (hh.push gob).get? hh.objs.size = some gob) →
      Q (.ref h1.objs.size) { s with heap := h1.push gob, toks := tk2, gens := s.gens.push (.fresh (.func body ((gpOf X A' N qual scope f cdv s.heap.objs.size (h1.objs.size, gob) ci ((vs[ci]?).getD .non)).env))) } := fun gob tk2 g1 g0 g2 g3 g4 => by
    refine h cdv h1.objs.size s.gens.size s.heap.objs.size (h1.objs.size, gob) _ ?_ ?_
    · exact I.call' (ch := []) rfl (Un.kept (kp2 _)) (I.hok.kept (kp2 _)) (AllBare.push I.bare rfl) fun b z => by simp at z
    · obtain ⟨oL, esL, epL, hoL, hdL, _⟩ := id ns1
      have hvl : ci < vs.length := by rw [hl]; exact hcp
      have hvs : vs[ci]? = some ((vs[ci]?).getD .non) := by rw [List.getElem?_eq_getElem hvl]; rfl
      have okg : (gpOf X A' N qual scope f cdv s.heap.objs.size (h1.objs.size, gob) ci ((vs[ci]?).getD .non)).Ok := by
        refine ⟨S.nd, ⟨xc, hci, hck, fun y d => ?_⟩, Nat.lt_succ_self _, fun b hb => ?_, Nat.le_trans I.ok.bsz I.sz⟩
        · show (cellsFrom (s.heap.objs.size + 1) scope.names []).lookup y = some d ↔ _
          rw [hcl]
          show List.lookup y [(xc, s.heap.objs.size + 1)] = some d ↔ (y = xc ∧ d = s.heap.objs.size + 1)
          rw [List.lookup_cons]
          by_cases hy : y = xc
          · subst hy
            simp [eq_comm]
          · have : (y == xc) = false := by simpa using hy
            rw [this]
            simp [hy]
        · rcases Nat.lt_or_ge b s.heap.objs.size with z | z
          · exact z
          · have := (Heap.FunFrames.mem I.env0.funs hb).2
            obtain ⟨o, ho, _⟩ := this
            exact Heap.lt_size ho
      have hst : (start N vs)[ci]? = some (some ((vs[ci]?).getD .non)) := start_at hvs
      obtain ⟨uc, qc, rc⟩ := Gp.held okg (Ig (h1.objs.size, gob)) hst
      obtain ⟨oc, qc1, qc2⟩ := id qc
      refine ⟨okg, ?_, ⟨rfl, g4 _, Nat.le_of_lt lt1, g3⟩, Array.getElem?_push_size .., hvs, ⟨uc, ⟨oc, Heap.get?_push_of_some _ qc1, qc2⟩, rc⟩, I.hok.fresh (Nat.le_succ _), Nat.ne_of_gt (Heap.lt_size qc1), young _ (Nat.le_of_lt lt1), young _ (Nat.le_refl _), Nat.ne_of_gt lt1, ⟨oL, Heap.get?_push_of_some _ hoL, fun v z => by rw [hdL] at z; cases z⟩, ⟨I.sz, I.lt, fun y c q => ?_, fun p hp => Heap.lt_size (I.pin p hp).1⟩, s, _, Ig _, fun o q => Heap.get?_push_of_some _ q⟩
      · obtain ⟨nm, qn, q⟩ := g2
        exact ⟨gob, nm, qn, g4 _, g1, q, g0⟩
      · obtain ⟨v, q2⟩ := I.cell y c q
        exact q2.lt
  show Q (.ref h1.objs.size) _
  refine main _ _ ?_ ?_ ?_ ?_ ?_
  · rfl
  · rfl
  · exact ⟨_, _, rfl⟩
  · intro v z
    cases z
  · intro hh
    exact Heap.get?_push_size _ rfl
/-- an expression that makes a generator: its parameters' values -/
abbrev TMk := L2.St → Hp → (List V → Hp → Prop) → Prop
structure PMk (X : Cx) (e : Expr) (A' : Around) (ci : Nat) (N : List Str) (qual : Str) (scope : Scope) (f : Addr) (body : List Stmt) (tm : TMk) : Prop where
  run : ∀ (pins : List (Addr × Obj)) (s : Shared) (σ : L2.St) (H : Hp) (Q : List V → Hp → Prop), Inv X pins σ H s → tm σ H Q → wpAny (model X.prog X.w) X.A (eval e X.env)
    (fun u s' => ∃ (vs : List V) (H1 : Hp) (cd : Value) (a gn L : Nat) (go : Addr × Obj), u = .ref a ∧ Inv X pins σ H1 s' ∧ GtM X pins H1 (gpOf X A' N qual scope f cd L go ci ((vs[ci]?).getD .non)) body vs a gn s' ∧ Q vs H1) X.xe s
section
variable {X : Cx} {k n : Nat} {x y qual : Str} {params : Arguments} {body : List Stmt} {scope : Scope} {dvs : List V} {kws : List (Str × V)} {f : Addr} {fd : FuncData} {N ps ks : List Str} {e : Expr} {es : List Expr} {kw : List Keyword} {t tk : TA} {p pos : Pos} {A' : Around} {ds : List Value} {wds : List V}
  {g : List Value → List Value → List Value} {gV : List V → List V → List V}
def tMkN (n m l : Nat) (gV : List V → List V → List V) (t tk : TA) : TMk := fun σ H Q => t σ H fun vs H1 => tk σ H1 fun zs H2 => vs.length = n ∧ zs.length = m ∧ (gV vs zs).length = l ∧ Q (gV vs zs) H2
theorem pmk_callN (F : FunD X.K y qual params body scope dvs kws f fd) (S : GScope N ps scope) {xc : Str} {ci : Nat} (hcl : ∀ n : Nat, cellsFrom n scope.names [] = [(xc, n)]) (hci : N[ci]? = some xc) (hck : scope.names.lookup xc = some .cell) (hcp : ci < ps.length) (hr : Room k X.A) (hA : A'.frames = X.A.frames) (hh : A'.handled = Option.none) (hg : Gl X x) (hm : X.mg x = some (.ref f)) (hk : PySem.W.keepIn X.K (.ref f) = true)
    (hb : KBn X.K fd ps n ks g gV) (ha : PA X (e :: es) t) (hkw : PK X kw tk) (hall : (backToKw pos (keywordEach kw X.env)).all (·.1.isSome) = true := by rfl) (hks : (backToKw pos (keywordEach kw X.env)).filterMap (·.1) = ks := by rfl)
    (hdb : (x == ("__debug__" : Str)) = false := by decide) (he : starEach (e :: es) X.env = (false, eval e X.env) :: starEach es X.env := by rfl)
    (hpl : ((backTo pos (starEach (e :: es) X.env)).any (·.1) || (backToKw pos (keywordEach kw X.env)).any (·.1.isNone)) = false := by rfl) :
    PMk X (.Call (.Name x p) (e :: es) kw pos) A' ci N qual scope f body (tMkN n ks.length ps.length gV t tk) := by
  refine ⟨fun pins s σ H Q I h => ?_⟩
  refine wpAny_Call_Name_kw (ld_glob I hg hm ?_ hdb)
  refine PySem.W.callWith_KW (h₀ := X.base) I.ok.mod.kin hk hall (thn (ha.run pos pins s σ H _ I h) fun us s1 ⟨vs, H1, I1, r, q⟩ => ?_) hpl he
  refine thn (hkw.run pos pins s1 σ H1 _ I1 q) fun ws s2 ⟨zs, H2, I2, rz, l1, l2, l3, q2⟩ => ⟨I2.kIn, ?_⟩
  rw [hks]
  refine wpAny_call (codeAny_mono (made_gt (ci := ci) (Q := fun u s' => ∃ (vs : List V) (H1 : Hp) (cd : Value) (a gn L : Nat) (go : Addr × Obj), u = .ref a ∧ Inv X pins σ H1 s' ∧ GtM X pins H1 (gpOf X A' N qual scope f cd L go ci ((vs[ci]?).getD .non)) body vs a gn s' ∧ Q vs H1) F S hcl hci hck hcp hr I2 (hb.to s2 us ws I2.kIn (r.length.symm.trans l1) (rz.length.symm.trans l2)) (hb.rel r rz) l3 A' (hA.trans I.ok.frames) hh fun cd a gn L go s' I' M => ⟨_, _, cd, a, gn, L, go, rfl, I', M, q2⟩) fun rr s' hq => ?_)
  match rr, hq with
  | .ok (.ret u), hq => exact hq
def tMkD (l : Nat) (dvs : List V) (t : TA) : TMk := fun σ H Q => t σ H fun vs H1 => (vs ++ dvs).length = l ∧ Q (vs ++ dvs) H1
theorem pmk_call (F : FunD X.K y qual params body scope dvs kws f fd) (S : GScope N ps scope) {xc : Str} {ci : Nat} (hcl : ∀ n : Nat, cellsFrom n scope.names [] = [(xc, n)]) (hci : N[ci]? = some xc) (hck : scope.names.lookup xc = some .cell) (hcp : ci < ps.length) (hr : Room k X.A) (hA : A'.frames = X.A.frames) (hh : A'.handled = Option.none) (hg : Gl X x) (hm : X.mg x = some (.ref f)) (hk : PySem.W.keepIn X.K (.ref f) = true)
    (hb : Binds X.K fd ps ds) (hd : Vals wds ds) (ha : PA X (e :: es) t) (hdb : (x == ("__debug__" : Str)) = false := by decide) (he : starEach (e :: es) X.env = (false, eval e X.env) :: starEach es X.env := by rfl) (hpl : (backTo pos (starEach es X.env)).any (·.1) = false := by rfl) :
    PMk X (.Call (.Name x p) (e :: es) [] pos) A' ci N qual scope f body (tMkD ps.length wds t) := by
  refine ⟨fun pins s σ H Q I h => ?_⟩
  refine wpAny_Call_Name_kw (ld_glob I hg hm ?_ hdb)
  refine PySem.W.callWith_K (h₀ := X.base) I.ok.mod.kin hk (thn (ha.run pos pins s σ H _ I h) fun us s1 ⟨vs, H1, I1, r, l3, q⟩ => ⟨I1.kIn, ?_⟩) he hpl
  have r2 : Vals (vs ++ wds) (us ++ ds) := r.append hd
  have bd := hb s1 us I1.kIn (by rw [← r2.length]; exact l3)
  refine wpAny_call (codeAny_mono (made_gt (ci := ci) (Q := fun u s' => ∃ (vs : List V) (H1 : Hp) (cd : Value) (a gn L : Nat) (go : Addr × Obj), u = .ref a ∧ Inv X pins σ H1 s' ∧ GtM X pins H1 (gpOf X A' N qual scope f cd L go ci ((vs[ci]?).getD .non)) body vs a gn s' ∧ Q vs H1) F S hcl hci hck hcp hr I1 bd r2 l3 A' (hA.trans I.ok.frames) hh fun cd a gn L go s' I' M => ⟨_, _, cd, a, gn, L, go, rfl, I', M, q⟩) fun rr s' hq => ?_)
  match rr, hq with
  | .ok (.ret u), hq => exact hq
end
end GFr

set_option Elab.async false
set_option linter.all false
set_option maxRecDepth 100000
set_option maxHeartbeats 1000000
/-! GtF: for .. in generator(..): any body, the generator asleep. -/
namespace GFr
open PySem PySem.Spec PyProof.Rows L2 GenW Mr
variable {α : Type}
/-- the body of a generator def keeps its word -/
def GtOk (r : Mr.R α) (N : List Str) (body : List Stmt) (sp : List V → Wo → List α → Prop) (g : Gp) : Prop := ∀ (vs : List V) (W : Wo) (xs : List α), vs[g.ci]? = some g.cv → sp vs W xs →
  ∃ t, GTs g ⟨r, xs⟩ body t ∧ ∀ W0 : Wo, Ext W.G W0.G → Sub W0.G W0.O W0.H → t { nx := fun i W' σ H => (i = xs.length ∧ σ[g.ci]? = some (some g.cv)) ∧ ∃ G1, Ext W'.G G1 ∧ Sub G1 W'.O H } 0 W0 (start N vs) W0.H
def LpG (r : Mr.R α) (sp : List V → Wo → List α → Prop) (tgt : TG) (tb : TS) (D : Ends) (σ : L2.St) (vs : List V) (H1 : Hp) : Prop := ∃ (xs : List α) (W0 : Wo) (I : Nat → L2.St → Wo → Prop), W0.H = H1 ∧ sp vs W0 xs ∧ Sub W0.G W0.O W0.H ∧ I 0 σ W0 ∧
  ∀ i σ W, I i σ W → Ext W0.G W.G → Sub W.G W.O W.H → (i = xs.length → ∀ G1 H', Ext W.G G1 → Sub G1 W.O H' → D.nx σ H') ∧
    (∀ x, xs[i]? = some x → ∀ u G1 H', Ext W.G G1 → Sub G1 W.O H' → r.rel G1 u x → tgt u σ H' fun σ2 H2 => tb { D with nx := fun σ' H' => ∃ W' : Wo, W'.H = H' ∧ Ext G1 W'.G ∧ Sub W'.G W'.O W'.H ∧ I (i + 1) σ' W', ct := fun σ' H' => ∃ W' : Wo, W'.H = H' ∧ Ext G1 W'.G ∧ Sub W'.G W'.O W'.H ∧ I (i + 1) σ' W', bk := D.nx } σ2 H2)
def tForG (r : Mr.R α) (sp : List V → Wo → List α → Prop) (tm : TMk) (tgt : TG) (tb : TS) : TS := fun D σ H => tm σ H (LpG r sp tgt tb D σ)
/-- the consumer's world without the frame's cell -/
def Gp.vw (g : Gp) (W : Wo) : Wo := ⟨ItX.dropH W.G g.c, W.O, ItX.dropH W.H g.c⟩
def CW (g : Gp) (W : Wo) : Prop := W.H g.c = none ∨ W.G g.c = some g.cellO
theorem drop_none {H : Hp} {a b : Addr} (h : H b = none) : ItX.dropH H a b = none := by
  by_cases e : b = a
  · rw [e, ItX.dropH_same]
  · rw [ItX.dropH_ne e]; exact h
theorem drop_ext {H H' : Hp} {a : Addr} (h : Ext H H') : Ext (ItX.dropH H a) (ItX.dropH H' a) := fun b u e => by
  by_cases z : b = a
  · rw [z, ItX.dropH_same] at e; cases e
  · rw [ItX.dropH_ne z] at e ⊢; exact h b u e
theorem drop_le {H : Hp} {a : Addr} : Ext (ItX.dropH H a) H := fun b u e => by
  by_cases z : b = a
  · rw [z, ItX.dropH_same] at e; cases e
  · rw [ItX.dropH_ne z] at e; exact e
section
variable {g : Gp} {W : Wo}
theorem CW.heap (h : CW g W) (S : Sub W.G W.O W.H) : ∀ u, W.H g.c = some u → u = g.cellO := fun u e => by
  rcases h with z | z
  · rw [z] at e; cases e
  · rw [S.ext _ _ z] at e; cases e; rfl
theorem vw_sub (h : CW g W) (S : Sub W.G W.O W.H) : Sub (g.vw W).G (g.vw W).O (g.vw W).H := by
  refine ⟨drop_ext S.ext, fun p hp => ?_, S.nd, fun b ps e => S.nt b ps (drop_le b _ e)⟩
  obtain ⟨q1, q2⟩ := S.own p hp
  have hb : p.1 ≠ g.c := fun z => by
    rcases h with y | y
    · rw [z, y] at q1; cases q1
    · rw [z, y] at q2; cases q2
  exact ⟨by show ItX.dropH W.H g.c p.1 = _; rw [ItX.dropH_ne hb]; exact q1, drop_none q2⟩
/-- a view's world as the consumer has it -/
theorem wrap {G1 H1 : Hp} (h : CW g W) (S : Sub W.G W.O W.H) (e : Ext (g.vw W).G G1) (S1 : Sub G1 W.O H1) (hn : H1 g.c = none) : Ext W.G (upd G1 g.c g.cellO) ∧ Sub (upd G1 g.c g.cellO) W.O (upd H1 g.c g.cellO) ∧ Ext G1 (upd G1 g.c g.cellO) := by
  refine ⟨fun b u q => ?_, S1.new hn, S1.extNew hn _⟩
  by_cases hb : b = g.c
  · subst hb
    rw [upd_same]
    rw [h.heap S u (S.ext _ _ q)]
  · rw [upd_ne hb]
    exact e b u (by show ItX.dropH W.G g.c b = _; rw [ItX.dropH_ne hb]; exact q)
end
/-- the first time it is woken -/
theorem go_first {X : Cx} {pins pins' : List (Addr × Obj)} {σ : L2.St} {H : Hp} {s s2 : Shared} {g : Gp} {body : List Stmt} {vs : List V} {a : Addr} {gn : Nat} {r : Mr.R α} {sp : List V → Wo → List α → Prop} {xs : List α} {W W2 : Wo} {A : Around} (I : Inv X pins' σ W2.H s2) (M : GtM X pins H g body vs a gn s) (hgP : g.P = X.prog) (hgw : g.w = X.w) (hgb : g.base = X.base) (hgo : g.outer = X.stack) (hgA : g.A = A)
    (ok : GtOk r g.N body sp g) (hk : ∀ b o, s.heap.get? b = some o → s2.heap.get? b = some o) (hna : W2.H a = Option.none) (hnL : W2.H g.L = Option.none) (hnc : W2.H g.c = Option.none) (e : Ext W.G W2.G) (S : Sub W2.G W2.O W2.H) (hWc : W.G g.c = none) (h : sp vs W xs) :
    CW g W2 ∧ GoX (model X.prog X.w) A (Ph g ⟨r, xs⟩ A xs.length (g.vw W2) (s2.setGen gn .running)) (.fresh (.func body g.env)) (s2.setGen gn .running) := by
  refine ⟨.inl hnc, ?_⟩
  obtain ⟨P, w, K, mg, base, N, qual, scope, f, cd, A', outer, L, go, c, ci, cv⟩ := g
  dsimp only at hgP hgw hgb hgo hgA ok hnc hWc
  subst hgP hgw hgb hgo hgA
  obtain ⟨t, ht, hq⟩ := ok vs W xs M.cvs h
  obtain ⟨sc, s1, I1, fr1⟩ := M.inv
  have eH : ItX.dropH W2.H c = W2.H := by
    funext b
    by_cases hb : b = c
    · rw [hb, ItX.dropH_same, hnc]
    · rw [ItX.dropH_ne hb]
  have eG : ItX.dropH W2.G c = W2.G := by
    funext b
    by_cases hb : b = c
    · rw [hb, ItX.dropH_same, S.gnone hnc]
    · rw [ItX.dropH_ne hb]
  have eW : Gp.vw ⟨X.prog, X.w, K, mg, X.base, N, qual, scope, f, cd, A', X.stack, L, go, c, ci, cv⟩ W2 = W2 := by
    show (⟨ItX.dropH W2.G c, W2.O, ItX.dropH W2.H c⟩ : Wo) = W2
    rw [eH, eG]
  rw [eW]
  have IR : Inv X pins' σ W2.H (s2.setGen gn .running) := inv_gens I (allB_set I.bare rfl)
  have e0 := IR.env0
  obtain ⟨uc, ⟨oc, qc, dc⟩, rc⟩ := M.cu
  have aw : Awake ⟨X.prog, X.w, K, mg, X.base, N, qual, scope, f, cd, A', X.stack, L, go, c, ci, cv⟩ [] s1 (s2.setGen gn .running) W2.H :=
    ⟨IR.bare, fun o q => hk _ _ (fr1 o q), fun p hp => absurd hp (by simp), hnL, ⟨uc, ⟨oc, hk _ _ qc, dc⟩, rc⟩, hnc, IR.hok, e0.bs, e0.funs, e0.frf⟩
  have I2 := rewake M.ok I1 (start_at M.cvs) aw
  obtain ⟨o1, o2, o3, o4⟩ := M.own
  have I3 := I2.pins_of (pins' := [go]) fun p hp => by
    obtain rfl : p = go := by simpa using hp
    refine ⟨?_, ?_, ?_, fun z => ?_, o4⟩
    · rw [o1]; exact hk _ _ o2
    · rw [o1]; exact hna
    · rw [o1]; exact M.aL
    · have := M.ok.frs _ z
      rw [o1] at this
      exact absurd this (Nat.not_lt.mpr o3)
  refine sx_func ?_
  have hL : L < (s2.setGen gn .running).heap.objs.size := awake_lt I1 aw
  refine ht.run A' [go] xs.length 0 W2 _ _ [] _ _ id id _ (start N vs) W2.H { nx := fun i W' σ H => (i = xs.length ∧ σ[ci]? = some (some cv)) ∧ ∃ G1, Ext W'.G G1 ∧ Sub G1 W'.O H } ⟨by simp, fun q hq => ?_, over_func, rfl, rfl, rfl⟩ (Nat.add_zero _) hL (fun n i W' s₀ s' fl hn hL' hs => ?_) I3 (hq W2 e S)
  · obtain rfl : q = go := by simpa using hq
    rw [o1]; exact o3
  · cases fl with
    | next =>
      obtain ⟨σ1, H1, J, ⟨hi, hcv⟩, G1, e1, S1⟩ := hs
      refine sx_end (.ok (.ret .none)) ?_
      have hn0 : n = 0 := by
        have hn' : n + i = xs.length := hn
        omega
      subst hn0
      exact ⟨rfl, rfl, G1, H1, [go], σ1, J, hcv, e1, S1, by simp⟩
    | brk => obtain ⟨_, _, _, z⟩ := hs; exact z.elim
    | cont => obtain ⟨_, _, _, z⟩ := hs; exact z.elim
    | ret v => exact hs.elim
/-- what stays true of a generator for its consumer -/
structure Stt (X : Cx) (pins : List (Addr × Obj)) (g : Gp) (a : Addr) (gn : Nat) : Prop where
  P : g.P = X.prog
  w : g.w = X.w
  b : g.base = X.base
  o : g.outer = X.stack
  ok : g.Ok
  a : g.go.1 = a
  isg : ∃ nm qn, g.go.2.cls = .type "generator" ∧ g.go.2.data = .fields #[.int gn 0, nm, qn] ∧ g.go.2.slots = #[]
  s0 : X.s_0.heap.objs.size ≤ g.L
  lo : X.env.locals < g.L
  ce : ∀ x c, X.env.cells.lookup x = some c → c < g.L
  pi : ∀ p ∈ X.pn ++ pins, p.1 < g.L
theorem GtM.stt {X : Cx} {pins : List (Addr × Obj)} {H : Hp} {g : Gp} {body : List Stmt} {vs : List V} {a : Addr} {gn : Nat} {s : Shared} (M : GtM X pins H g body vs a gn s) (hP : g.P = X.prog) (hw : g.w = X.w) (hb : g.base = X.base) (ho : g.outer = X.stack) : Stt X pins g a gn := by
  obtain ⟨o1, o2, o3, o4⟩ := M.own
  obtain ⟨ob, nm, qn, q1, q2, q3, q4⟩ := M.isg
  rw [o2] at q1
  cases q1
  exact ⟨hP, hw, hb, ho, M.ok, o1, ⟨nm, qn, q2, q3, q4⟩, M.older.1, M.older.2.1, M.older.2.2.1, M.older.2.2.2⟩
section
variable {X : Cx} {pins : List (Addr × Obj)} {σ : L2.St} {g : Gp} {a : Addr} {gn n : Nat} {C : Con α} {A : Around} {W : Wo} {s0 s1 : Shared}
theorem Stt.gen (T : Stt X pins g a gn) {h : Heap} (q : h.get? a = some g.go.2) : h.IsGen a gn := by
  obtain ⟨nm, qn, q2, q3, q4⟩ := T.isg
  exact ⟨_, nm, qn, q, q2, q3, q4⟩
/-- it has ended -/
theorem ended {r : Result} (T : Stt X pins g a gn) (I : Inv X pins σ W.H s0) (hW : CW g W) (S0 : Sub W.G W.O W.H) (h : Ph g C A n (g.vw W) s0 (.ret r) s1) : r = .ok (.ret .none) ∧ n = 0 ∧ ∃ G1 H1, Inv X pins σ H1 s1 ∧ Ext W.G G1 ∧ Sub G1 W.O H1 := by
  have h' : r = .ok (.ret .none) ∧ n = 0 ∧ ∃ (G1 H1 : Hp) (ip : List (Addr × Obj)) (σ : L2.St), Inv (g.cx s0 (g.vw W).H) ip σ H1 s1 ∧ σ[g.ci]? = some (some g.cv) ∧ Ext (g.vw W).G G1 ∧ Sub G1 W.O H1 ∧ g.go ∈ ip := by
    cases n <;> exact h
  obtain ⟨h1, h2, G1, H1, ip, σg, J, hcv, e1, S1, _⟩ := h'
  have hcn : H1 g.c = none := by
    obtain ⟨x, _, _, q⟩ := T.ok.cell
    exact J.freeC x g.c ((q x g.c).mpr ⟨rfl, rfl⟩)
  obtain ⟨w1, w2, w3⟩ := wrap hW S0 e1 S1 hcn
  exact ⟨h1, h2, _, _, Inv.seg I T.ok J (Gp.held T.ok J hcv) (hW.heap S0) T.o.symm T.P.symm T.w.symm T.s0 T.lo T.ce T.pi J.os, w1, w2⟩
/-- it sleeps -/
theorem slept {v : Value} {l : List Value} {k : Resume → Sem PySem.Fin} {c : Code} {p : Pos} {fs : List Frame} {gd : Bool} (T : Stt X pins g a gn) (I : Inv X pins σ W.H s0) (hW : CW g W) (S0 : Sub W.G W.O W.H) (h : Ph g C A (n + 1) (g.vw W) s0 (.susp v gd l k c p fs) s1) :
    gd = false ∧ (End.susp v gd l k c p fs).quiet = true ∧ ∃ (i : Nat) (x : α) (u : V) (G1 H1 : Hp) (pl : List (Addr × Obj)), n + 1 + i = C.xs.length ∧ C.xs[i]? = some x ∧ RelV u v ∧ Inv X (pins ++ pl) σ H1 s1 ∧ Ext W.G G1 ∧ Sub G1 W.O H1 ∧ C.r.rel G1 u x ∧ s1.heap.get? a = some g.go.2 ∧
      ∀ (s2 : Shared) (W2 : Wo) (σ2 : L2.St), Ext G1 W2.G → Sub W2.G W2.O W2.H → Inv X (pins ++ pl) σ2 W2.H s2 → s2.heap.get? a = some g.go.2 ∧ CW g W2 ∧ SegX (model g.P g.w) A (Ph g C A n (g.vw W2) s2) c (k (.send .none)) fs s2 := by
  obtain ⟨h1, h2, i, x, u, G1, H1, ip, σg, hn, hx, ru, J, hcv, e1, S1, hr, own, yg, next⟩ := h
  have hcn : H1 g.c = none := by
    obtain ⟨x, _, _, q⟩ := T.ok.cell
    exact J.freeC x g.c ((q x g.c).mpr ⟨rfl, rfl⟩)
  obtain ⟨uc, ⟨oc, qc, dc⟩, rc⟩ := Gp.held T.ok J hcv
  have I1 := Inv.seg I T.ok J ⟨uc, ⟨oc, qc, dc⟩, rc⟩ (hW.heap S0) T.o.symm T.P.symm T.w.symm T.s0 T.lo T.ce T.pi J.os
  obtain ⟨w1, w2, w3⟩ := wrap hW S0 e1 S1 hcn
  have jp : ∀ q ∈ ip, s1.heap.get? q.1 = some q.2 ∧ H1 q.1 = Option.none ∧ ∀ v, q.2.data ≠ .cell v := fun q hq => by
    have := J.pin q (List.mem_append_right _ hq)
    exact ⟨this.1, this.2.1, this.2.2.2.2⟩
  obtain ⟨m, ⟨oL, esL, epL, hoL, hdL, _⟩, _⟩ := id J.loc
  have hfp : ∀ b, g.L ≤ b → b ≠ g.c → H1 b = Option.none → FpOk X pins (upd H1 g.c g.cellO) b := fun b hb hc hn => by
    refine ⟨by rw [upd_ne hc]; exact hn, Nat.ne_of_gt (Nat.lt_of_lt_of_le T.lo hb), fun z => ?_, .inr (Nat.le_trans T.s0 hb), fun x c q => Nat.ne_of_lt (Nat.lt_of_lt_of_le (T.ce x c q) hb), fun p hp => Nat.ne_of_lt (Nat.lt_of_lt_of_le (T.pi p hp) hb)⟩
    obtain ⟨_, o, ho, _⟩ := I.ok.funs.mem z
    exact absurd (Nat.lt_of_lt_of_le (Heap.lt_size ho) T.s0) (Nat.not_lt.mpr hb)
  have jall : ∀ b ∈ g.L :: ip.map (·.1), g.L ≤ b ∧ b ≠ g.c ∧ H1 b = Option.none ∧ ∃ o, s1.heap.get? b = some o ∧ ∀ v, o.data ≠ .cell v := fun b hb => by
    rcases List.mem_cons.mp hb with z | z
    · rw [z]; exact ⟨Nat.le_refl _, Nat.ne_of_lt T.ok.lc, J.free, oL, hoL, fun v y => by rw [hdL] at y; cases y⟩
    · obtain ⟨q, hq, rfl⟩ := List.mem_map.mp z
      refine ⟨yg q hq, fun y => ?_, (jp q hq).2.1, q.2, (jp q hq).1, (jp q hq).2.2⟩
      have y1 := (jp q hq).1
      rw [y, qc] at y1
      cases y1
      exact (jp q hq).2.2 _ dc
  have I2 := I1.pinned (fp := g.L :: ip.map (·.1)) (fun b hb => hfp b (jall b hb).1 (jall b hb).2.1 (jall b hb).2.2.1) fun b hb => (jall b hb).2.2.2
  refine ⟨h1, h2, i, x, u, _, _, _, hn, hx, ru, I2, w1, w2, R.up w3 hr, by rw [← T.a]; exact (jp _ own).1, fun s2 W2 σ2 e2 S2 I3 => ?_⟩
  have kp : ∀ b ∈ g.L :: ip.map (·.1), ∀ o, s1.heap.get? b = some o → s2.heap.get? b = some o ∧ W2.H b = Option.none := fun b hb o q => by
    have := I3.pin (b, o) (List.mem_append_right _ (List.mem_append_right _ (mem_pinsAt hb q)))
    exact ⟨this.1, this.2.1⟩
  have kq : ∀ q ∈ ip, s2.heap.get? q.1 = some q.2 ∧ W2.H q.1 = Option.none := fun q hq => kp q.1 (List.mem_cons_of_mem _ (List.mem_map.mpr ⟨q, hq, rfl⟩)) _ (jp q hq).1
  have hGc : W2.G g.c = some g.cellO := e2 _ _ upd_same
  have hHc : W2.H g.c = some g.cellO := S2.ext _ _ hGc
  have hW2 : CW g W2 := .inr hGc
  have e0 := I3.env0
  have e3 : Ext G1 (g.vw W2).G := fun b u q => by
    have hb : b ≠ g.c := fun z => by
      have y := S1.ext _ _ q
      rw [z, hcn] at y; cases y
    show ItX.dropH W2.G g.c b = some u
    rw [ItX.dropH_ne hb]
    exact e2 b u (by rw [upd_ne hb]; exact q)
  have hcell : ∃ u, s2.heap.IsCell g.c (some u) ∧ RelV g.cv u := by
    have y : ObjOk X.prog X.w W2.H s2.heap g.c g.cellO := I3.hok _ _ hHc
    exact y.1
  have Id := ItX.inv_drop I3 hHc
  refine ⟨by rw [← T.a]; exact (kq _ own).1, hW2, next s2 (g.vw W2) e3 (vw_sub hW2 S2) ⟨I3.bare, fun o q => (kp g.L (List.mem_cons_self ..) o q).1, fun q hq => ⟨(kq q hq).1, drop_none (kq q hq).2⟩, drop_none (kp g.L (List.mem_cons_self ..) oL hoL).2, hcell, ItX.dropH_same, ?_, ?_, ?_, ?_⟩⟩
  · rw [T.P, T.w]; exact Id.hok
  · rw [T.b]; exact fun b o q => ⟨(e0.bs b o q).1, drop_none (e0.bs b o q).2⟩
  · rw [T.b, T.o]; exact e0.funs
  · rw [T.o]; exact fun b hb => drop_none (e0.frf b hb)
end
theorem ps_forG {X : Cx} {tg e : Expr} {body gb : List Stmt} {pos : Pos} {N : List Str} {qual : Str} {scope : Scope} {f : Addr} {tm : TMk} {tgt : TG} {tb : TS} {k ci : Nat} {r : Mr.R α} {sp : List V → Wo → List α → Prop} (hr : Room k X.A) (hc : X.calm = true)
    (ok : ∀ cd L go cv, (gpOf X.nox X.A.in1 N qual scope f cd L go ci cv).Ok → GtOk r N gb sp (gpOf X.nox X.A.in1 N qual scope f cd L go ci cv)) (hm : PMk X.nox e X.A.in1 ci N qual scope f gb tm) (hgt : PG X.nox tg tgt) (hbd : PSs X.nox body tb)
    (hs : ∀ x, foldedSetIterable e X.env x = pure x := by intro _; rfl) : PS X.nox (.For tg e body [] pos) (tForG r sp tm tgt tb) := by
  refine ⟨fun pins s σ H D0 I h => ?_⟩
  refine wpAny_For (thn (hm.run pins s σ H _ I h) fun v s1 hv => ?_) hs
  obtain ⟨vs, H1, cd, a, gn, L, go, rfl, I1, M, xs, W0, Iv, rfl, hsp, S0, i0, step⟩ := hv
  obtain ⟨g, hg⟩ : ∃ g, gpOf X.nox X.A.in1 N qual scope f cd L go ci ((vs[ci]?).getD .non) = g := ⟨_, rfl⟩
  have okg := ok cd L go ((vs[ci]?).getD .non)
  rw [hg] at okg M
  have gP : g.P = X.prog := by rw [← hg]; rfl
  have gw : g.w = X.w := by rw [← hg]; rfl
  have gb' : g.base = X.base := by rw [← hg]; rfl
  have go' : g.outer = X.stack := by rw [← hg]; rfl
  have gA : g.A = X.A.in1 := by rw [← hg]; rfl
  have gN : g.N = N := by rw [← hg]; rfl
  have T := M.stt (X := X.nox) gP gw gb' go'
  refine wpAny_pyIter_gen M.isg ?_
  have hh : X.A.handled = none := I.ok.hd hc
  have st0 : CW g W0 ∧ GoX (model X.prog X.w) X.A.in1 (Ph g ⟨r, xs⟩ X.A.in1 xs.length (g.vw W0) (s1.setGen gn .running)) (.fresh (.func gb g.env)) (s1.setGen gn .running) :=
    go_first (X := X.nox) (σ := σ) I1 M gP gw gb' go' gA (by rw [gN]; exact okg M.ok) (fun _ _ q => q) M.fa.1 M.fL.1 M.cn (.refl _) S0 (S0.gnone M.cn) hsp
  refine codeAny_forLoop_any (fun n s' => ∃ i gs σ' W', n + i = xs.length ∧ Iv i σ' W' ∧ Ext W0.G W'.G ∧ Sub W'.G W'.O W'.H ∧ Inv X.nox pins σ' W'.H s' ∧ s'.heap.get? a = some g.go.2 ∧ s'.gens[gn]? = some gs ∧ CW g W' ∧
    GoX (model X.prog X.w) X.A.in1 (Ph g ⟨r, xs⟩ X.A.in1 n (g.vw W') (s'.setGen gn .running)) gs (s'.setGen gn .running)) ?_ xs.length ⟨0, _, σ, W0, rfl, i0, .refl _, S0, I1, by rw [← T.a]; exact T.a ▸ M.own.2.1, M.gs, st0.1, st0.2⟩
  rintro n s3 ⟨i, gs, σ3, W3, hn, iv3, e3, S3, I3, ha3, hgs, hcw, hgo⟩
  obtain ⟨stop, item⟩ := step i σ3 W3 iv3 e3 S3
  have IR : Inv X.nox pins σ3 W3.H (s3.setGen gn .running) := inv_gens I3 (allB_set I3.bare rfl)
  refine wpAny_mono (E := fun _ _ => False) ?_ (fun _ _ z => z) (fun _ _ z => z.elim)
  refine nextX hh I3.nolimit hr.depth (T.gen ha3) hgs hgo (fun v l k c p fs s₁ hp hz hq => ?_) (fun r' s₁ hp => ?_) (fun v gd l k c p fs s₁ hp => ?_)
  · cases n with
    | zero => exact hp.elim
    | succ n =>
      obtain ⟨_, _, i', x, u, G1, H1, pl, hn', hx, ru, I4, e4, S4, hr4, ha4, wake⟩ := slept T IR hcw S3 hp
      have hi : i' = i := by
        have h5 : n + 1 + i' = xs.length := hn'
        omega
      subst hi
      have hlt : gn < s3.gens.size := (Array.getElem?_eq_some_iff.mp hgs).1
      obtain ⟨y, hy⟩ : ∃ y, (End.susp v false l k c p fs).genState = y := ⟨_, rfl⟩
      have hys : isSus y = true := by rw [← hy]; rfl
      have hyb : y.bare = true := by rw [← hy]; exact End.bare_of_quiet hq
      rw [hy]
      have I5 : Inv X.nox (pins ++ pl) σ3 H1 (s₁.setGen gn y) := inv_gens I4 (allB_set I4.bare hyb)
      have gy : (s₁.setGen gn y).gens[gn]? = some y := by
        have : gn < s₁.gens.size := Nat.lt_of_lt_of_le hlt hz
        simp [Shared.setGen, this]
      obtain ⟨nm, qn, q2, q3, q4⟩ := T.isg
      refine go_of (n := "generator") ha4 q2 q3 (by decide) ?_
      refine wpAny_mono (E := fun _ _ => False) ?_ (fun _ _ z => z) (fun _ _ z => z.elim)
      refine run_calm I5 (fun z Iz _ => hgt.run _ z σ3 _ u v _ Iz ru (item x hx u G1 H1 e4 S4 hr4)) fun _ z6 G6 q6 hb6 hk6 => ?_
      obtain ⟨σ6, H6, I6, q6⟩ := q6
      have I6' := inv_gens I6 (hb6 I6.bare)
      refine wpAny_mono (E := fun _ _ => False) ?_ (fun _ _ z => z) (fun _ _ z => z.elim)
      refine run_calm I6' (fun z Iz _ => hbd.run _ z σ6 H6 _ Iz q6) fun fl z7 G7 q7 hb7 hk7 => ?_
      have again : ∀ {σ7 : L2.St} {H7 : Hp}, Inv X.nox (pins ++ pl) σ7 H7 z7 → (∃ W' : Wo, W'.H = H7 ∧ Ext G1 W'.G ∧ Sub W'.G W'.O W'.H ∧ Iv (i' + 1) σ7 W') → ∃ m', m' < n + 1 ∧ ∃ i gs σ' W', m' + i = xs.length ∧ Iv i σ' W' ∧ Ext W0.G W'.G ∧ Sub W'.G W'.O W'.H ∧ Inv X.nox pins σ' W'.H { z7 with gens := G7 } ∧ z7.heap.get? a = some g.go.2 ∧ G7[gn]? = some gs ∧ CW g W' ∧
          GoX (model X.prog X.w) X.A.in1 (Ph g ⟨r, xs⟩ X.A.in1 m' (g.vw W') (({ z7 with gens := G7 } : Shared).setGen gn .running)) gs (({ z7 with gens := G7 } : Shared).setGen gn .running) := fun {σ7 H7} I7 n7 => by
        obtain ⟨W7, rfl, e7, S7, iv7⟩ := n7
        have I8 : Inv X.nox (pins ++ pl) σ7 W7.H { z7 with gens := G7 } := inv_gens I7 (hb7 I7.bare)
        have I9 : Inv X.nox (pins ++ pl) σ7 W7.H (({ z7 with gens := G7 } : Shared).setGen gn .running) := inv_gens I8 (allB_set I8.bare rfl)
        obtain ⟨ha7, hcw7, wk⟩ := wake _ W7 σ7 e7 S7 I9
        refine ⟨n, Nat.lt_succ_self _, i' + 1, y, σ7, W7, by omega, iv7, e3.trans (e4.trans e7), S7, I8.unpinned, ha7, hk7 gn y (hk6 gn y gy hys) hys, hcw7, ?_⟩
        rw [← hy]
        rw [gP, gw] at wk
        exact wk
      cases fl with
      | next => obtain ⟨σ7, H7, I7, n7⟩ := q7; exact again I7 n7
      | cont => obtain ⟨σ7, H7, I7, n7⟩ := q7; exact again I7 n7
      | brk => obtain ⟨σ7, H7, I7, q7⟩ := q7; exact ⟨σ7, H7, inv_gens I7.unpinned (hb7 I7.bare), q7⟩
      | ret v => obtain ⟨x7, σ7, H7, I7, r7, q7⟩ := q7; exact ⟨x7, σ7, H7, inv_gens I7.unpinned (hb7 I7.bare), r7, q7⟩
  · obtain ⟨h1, h2, G1, H1, I4, e4, S4⟩ := ended T IR hcw S3 hp
    refine ⟨h1, fun h' ext => ?_⟩
    refine wpAny_execs_nil ⟨σ3, H1, ?_, stop (by omega) G1 H1 e4 S4⟩
    have I5 : Inv X.nox pins σ3 H1 { s₁ with heap := h' } := I4.kept (t' := s₁.toks) ext
    exact inv_gens I5 (allB_set I5.bare rfl)
  · cases n with
    | zero => exact hp.elim
    | succ n => exact ⟨(slept T IR hcw S3 hp).1, (slept T IR hcw S3 hp).2.1⟩
end GFr

set_option Elab.async false
set_option linter.all false
set_option maxRecDepth 100000
set_option maxHeartbeats 1000000
/-! GtG: list(generator(..)). -/
namespace GFr
open PySem PySem.Spec PyProof.Rows L2 GenW Mr
variable {α : Type}
section
variable {X : Cx} {pins : List (Addr × Obj)} {σ : L2.St} {g : Gp} {a : Addr} {gn : Nat} {r : Mr.R α} {xs : List α} {A : Around} {G0 : Hp} {O0 : Own}
theorem drainX {R : Result → Shared → Prop} {S : Addr} {res : Value} (T : Stt X pins g a gn) (hh : A.handled = none) (hd : A.depth < recursionLimit) (hsz : xs.length ≤ sizeLine) (gA : g.A = A.in1.in1)
    (hend : ∀ s' G1 H' ys, Ext G0 G1 → Sub G1 ((S, .lst ys) :: O0) H' → Al r G1 ys xs → Inv X pins σ H' s' → R (.ok (.ret res)) s') :
    ∀ (n i : Nat) (W : Wo) (ys : List V) (gs : GenState) (s : Shared), n + i = xs.length → CW g W → W.O = (S, .lst ys) :: O0 → Ext G0 W.G → Sub W.G W.O W.H → Al r W.G ys (xs.take i) → Inv X pins σ W.H s → s.heap.get? a = some g.go.2 → s.gens[gn]? = some gs →
      GoX (model X.prog X.w) A.in1.in1 (Ph g ⟨r, xs⟩ A.in1.in1 n (g.vw W) (s.setGen gn .running)) gs (s.setGen gn .running) →
      codeAny (model X.prog X.w) A (.builtin "list.extend.loop" ⟨[.ref S, .ref a, res], []⟩) R s := by
  have gP := T.P
  have gw := T.w
  intro n
  induction n with
  | zero =>
    intro i W ys gs s hn hcw hO e0 S0 hal I ha hgs hgo
    have IR : Inv X pins σ W.H (s.setGen gn .running) := inv_gens I (allB_set I.bare rfl)
    refine codeAny_builtin F.entry_extend_loop ?_
    rw [Around.under_plainId F.plain_extend_loop _]
    show wpAny _ A.in1 (pyNext (.ref a) >>= _) _ _ s
    refine wpAny_bind (nextX (A := A.in1) hh I.nolimit hd (T.gen ha) hgs hgo (fun v l k c p fs s₁ hp hz hq => hp.elim) (fun r' s₁ hp => ?_) (fun v gd l k c p fs s₁ hp => hp.elim))
    obtain ⟨h1, h2, G1, H1, I4, e4, S4⟩ := ended T IR hcw S0 hp
    refine ⟨h1, fun h' ext => ?_⟩
    have I5 : Inv X pins σ H1 { s₁ with heap := h' } := I4.kept (t' := s₁.toks) ext
    have hi : i = xs.length := by omega
    rw [hi, List.take_length] at hal
    rw [hO] at S4
    exact wpAny_pure (hend _ G1 H1 ys (e0.trans e4) S4 (hal.up e4) (inv_gens I5 (allB_set I5.bare rfl)))
  | succ n ih =>
    intro i W ys gs s hn hcw hO e0 S0 hal I ha hgs hgo
    have IR : Inv X pins σ W.H (s.setGen gn .running) := inv_gens I (allB_set I.bare rfl)
    have hlt : gn < s.gens.size := (Array.getElem?_eq_some_iff.mp hgs).1
    refine codeAny_builtin F.entry_extend_loop ?_
    rw [Around.under_plainId F.plain_extend_loop _]
    show wpAny _ A.in1 (pyNext (.ref a) >>= _) _ _ s
    refine wpAny_bind (nextX (A := A.in1) hh I.nolimit hd (T.gen ha) hgs hgo (fun v l k c p fs s₁ hp hz hq => ?_) (fun r' s₁ hp => ?_) (fun v gd l k c p fs s₁ hp => ⟨(slept T IR hcw S0 hp).1, (slept T IR hcw S0 hp).2.1⟩))
    · obtain ⟨_, _, i', x, u, G1, H1, pl, hn', hx, ru, I4, e4, S4, hr4, ha4, wake⟩ := slept T IR hcw S0 hp
      have hi : i' = i := by
        have h5 : n + 1 + i' = xs.length := hn'
        omega
      subst hi
      obtain ⟨y, hy⟩ : ∃ y, (End.susp v false l k c p fs).genState = y := ⟨_, rfl⟩
      have hyb : y.bare = true := by rw [← hy]; exact End.bare_of_quiet hq
      rw [hy]
      rw [hO] at S4
      have hS1 : H1 S = some (.lst ys) := S4.head
      obtain ⟨z1, its, n1, rv, hl1, hg1⟩ := I4.lstM hS1
      have hlen : ys.length = i' := by
        have h6 := hal.len
        rw [List.length_take] at h6
        have h7 : n + 1 + i' = xs.length := hn'
        omega
      have hil : i' < xs.length := (List.getElem?_eq_some_iff.mp hx).1
      have hyl : ys.length < sizeLine := by omega
      have gy : (s₁.setGen gn y).gens[gn]? = some y := by
        have : gn < s₁.gens.size := Nat.lt_of_lt_of_le hlt hz
        simp [Shared.setGen, this]
      have hv2 : Vals (ys ++ [u]) (its ++ [v]) := rv.append (.cons ru .nil)
      have I5 : Inv X (pins ++ pl) σ (upd H1 S (.lst (ys ++ [u]))) { s₁ with heap := s₁.heap.update S (Obj.mapSeq (·.push v)), toks := s₁.toks } :=
        I4.lset (its' := its ++ [v]) hS1 hg1 (by simp) hv2 (by rw [List.length_append]; show ys.length + 1 ≤ sizeLine; omega)
      have I6 : Inv X (pins ++ pl) σ (upd H1 S (.lst (ys ++ [u]))) { s₁.setGen gn y with heap := s₁.heap.update S (Obj.mapSeq (·.push v)) } := inv_gens I5 (allB_set I4.bare hyb)
      show wpAny _ A.in1 (updateSeq S (·.push v) >>= _) _ _ _
      refine wpAny_bind ?_
      refine wpAny_updateSeq hg1 rfl (wpAny_pure ⟨plainId_quiet F.plain_extend_loop _, ?_⟩) (by show its.toArray.size ≤ sizeLine; rw [List.size_toArray, ← hl1]; exact z1) (by show (its.toArray.push v).size ≤ sizeLine + 1; rw [Array.size_push, List.size_toArray, ← hl1]; omega)
      have S5 : Sub G1 ((S, .lst (ys ++ [u])) :: O0) (upd H1 S (.lst (ys ++ [u]))) := S4.wr
      have I7 := inv_gens (G := (({ s₁.setGen gn y with heap := s₁.heap.update S (Obj.mapSeq (·.push v)) } : Shared).setGen gn .running).gens) I6 (allB_set I6.bare rfl)
      obtain ⟨ha7, hcw7, wk⟩ := wake _ ⟨G1, (S, .lst (ys ++ [u])) :: O0, upd H1 S (.lst (ys ++ [u]))⟩ σ (.refl _) S5 I7
      have htk : xs.take (i' + 1) = xs.take i' ++ [x] := by rw [List.take_succ, hx]; rfl
      refine ih (i' + 1) ⟨G1, (S, .lst (ys ++ [u])) :: O0, upd H1 S (.lst (ys ++ [u]))⟩ (ys ++ [u]) y _ (by omega) hcw7 rfl (e0.trans e4) S5 ?_ I6.unpinned ha7 gy ?_
      · rw [htk]; exact (hal.up e4).snoc hr4
      · rw [← hy]
        rw [gP, gw] at wk
        rw [← hy] at wk
        exact wk
    · obtain ⟨h1, h2, _⟩ := ended T IR hcw S0 hp
      omega
end
def tListGt (r : Mr.R α) (sp : List V → Wo → List α → Prop) (tm : TMk) : TE := fun σ H Q => tm σ H fun vs H1 => ∃ (xs : List α) (W0 : Wo), W0.H = H1 ∧ sp vs W0 xs ∧ Sub W0.G W0.O W0.H ∧ xs.length ≤ sizeLine ∧
  ∀ (p : Addr) (G1 H' : Hp) (ys : List V), W0.H p = none → Ext W0.G G1 → Sub G1 ((p, .lst ys) :: W0.O) H' → Al r G1 ys xs → Q (.ref p) H'
/-- list(g) -/
theorem pe_listGt {X : Cx} {e : Expr} {gb : List Stmt} {p pos : Pos} {N : List Str} {qual nm : Str} {scope : Scope} {f : Addr} {tm : TMk} {k ci : Nat} {r : Mr.R α} {sp : List V → Wo → List α → Prop} (hr : Room (k + 3) X.A) (hc : X.calm = true)
    (ok : ∀ cd L go cv, (gpOf X.nox X.A.in1.in1.in1 N qual scope f cd L go ci cv).Ok → GtOk r N gb sp (gpOf X.nox X.A.in1.in1.in1 N qual scope f cd L go ci cv)) (hm : PMk X.nox e X.A.in1.in1.in1 ci N qual scope f gb tm)
    (hg : Gl X nm) (hmg : X.mg nm = none) (hv : bootBuiltins nm = some (.type "list")) (hnm : nm ≠ "__name__" := by decide) (hdb : (nm == ("__debug__" : Str)) = false := by decide)
    (he : starEach [e] X.env = (false, eval e X.env) :: starEach [] X.env := by rfl) : PE X.nox (.Call (.Name nm p) [e] [] pos) (tListGt r sp tm) := by
  refine ⟨fun pins s σ H Q I h => ?_⟩
  refine wpAny_Call_Name_kw (ld_blt I hg hmg hv ?_ hnm hdb)
  refine PyProof.Rows.callWith_type1 ?_ he rfl
  rw [show starEach [e] X.nox.env = starEach [e] X.env from rfl, he]
  show wpAny _ _ (spliced ((false, eval e X.env) :: backTo pos (starEach [] X.env))) _ _ s
  refine Calls.spliced_cons (thn (hm.run pins s σ H _ I h) fun u s1 hv => ?_)
  refine Calls.spliced_nil ?_
  obtain ⟨vs, H1, cd, a, gn, L, go, rfl, I1, M, xs, W0, rfl, hsp, S0, hsz, hq⟩ := hv
  obtain ⟨g, hg⟩ : ∃ g, gpOf X.nox X.A.in1.in1.in1 N qual scope f cd L go ci ((vs[ci]?).getD .non) = g := ⟨_, rfl⟩
  have okg := ok cd L go ((vs[ci]?).getD .non)
  rw [hg] at okg M
  have gP : g.P = X.prog := by rw [← hg]; rfl
  have gw : g.w = X.w := by rw [← hg]; rfl
  have gb' : g.base = X.base := by rw [← hg]; rfl
  have go' : g.outer = X.stack := by rw [← hg]; rfl
  have gA : g.A = X.A.in1.in1.in1 := by rw [← hg]; rfl
  have gN : g.N = N := by rw [← hg]; rfl
  have T := M.stt (X := X.nox) gP gw gb' go'
  have ha2 : a < s1.heap.objs.size := Heap.lt_size M.own.2.1
  have hSa : s1.heap.objs.size ≠ a := Nat.ne_of_gt ha2
  have hSL : s1.heap.objs.size ≠ g.L := fun z => by
    obtain ⟨o, ho, _⟩ := M.dict
    exact absurd (Heap.lt_size ho) (by rw [z]; exact Nat.lt_irrefl _)
  have hSc : s1.heap.objs.size ≠ g.c := fun z => by
    obtain ⟨u, ⟨o, q, _⟩, _⟩ := M.cu
    exact absurd (Heap.lt_size q) (by rw [z]; exact Nat.lt_irrefl _)
  have hp0 : W0.H s1.heap.objs.size = none := I1.fresh
  refine callType_codes (Q₁ := fun obj s₁ => obj = .ref s1.heap.objs.size ∧ s₁ = { s1 with heap := s1.heap.push { cls := .type "list", data := .seq #[] } }) F.called_list (F.typeCall_list_1 _) F.entry_list_init
    (code_list_new _ ⟨rfl, rfl⟩) fun obj s₁ h₁ => ?_
  obtain ⟨rfl, rfl⟩ := h₁
  have hS : (s1.heap.push { cls := .type "list", data := .seq #[] }).get? s1.heap.objs.size = some { cls := .type "list", data := .seq #[] } := Heap.get?_push_size _ rfl
  refine ⟨⟨_, hS, rfl⟩, F.args_list_init_2 _ _, ?_⟩
  show wpAny _ X.A.in1.in1 (do let old ← Builtin.List.listItems (.ref s1.heap.objs.size); Builtin.List.listUpdate (.ref s1.heap.objs.size) (fun _ => #[]); letGo old.toList.reverse; Builtin.List.listExtendWith (.ref s1.heap.objs.size) (.ref a) .none) _ _ _
  refine wpAny_bind ?_
  unfold Builtin.List.listItems
  refine wpAny_bind (wpAny_seqItems hS rfl (wpAny_pure ?_))
  show wpAny _ X.A.in1.in1 (updateSeq s1.heap.objs.size (fun _ => #[]) >>= fun _ => letGo (#[] : Array Value).toList.reverse >>= fun _ => Builtin.List.listExtendWith (.ref s1.heap.objs.size) (.ref a) .none) _ _ _
  refine wpAny_bind (wpAny_updateSeq hS rfl ?_)
  have hS2 := Heap.get?_update_self (Obj.mapSeq (fun _ => (#[] : Array Value))) hS rfl
  refine wpAny_bind (wpAny_letGo ?_)
  unfold Builtin.List.listExtendWith
  have up : ∀ (h : Heap) (f : Obj → Obj), (∀ b o, s1.heap.get? b = some o → h.get? b = some o) → ∀ b o, s1.heap.get? b = some o → (h.update s1.heap.objs.size f).get? b = some o := fun h f q b o e =>
    (Heap.get?_update_other _ _ (Ne.symm (Nat.ne_of_lt (Heap.lt_size e)))).trans (q b o e)
  have k1 : ∀ b o, s1.heap.get? b = some o → (s1.heap.push { cls := .type "list", data := .seq #[] }).get? b = some o := fun b o e => Heap.get?_push_of_some _ e
  have k2 := up _ (Obj.mapSeq (fun _ => (#[] : Array Value))) k1
  have gty : ∀ {h : Heap}, (∀ b o, s1.heap.get? b = some o → h.get? b = some o) → h.IsGen a gn := fun {h} q => M.isg.keeps q
  refine wpAny_bind (wpAny_typeOf (Heap.IsGen.typeIs (s := { s1 with heap := _ }) (gty k2)) ?_)
  have h1 : Builtin.List.listSameRef (.ref s1.heap.objs.size) (.ref a) = false := by simp [Builtin.List.listSameRef, hSa]
  have h2 : (Value.type "generator" == Value.type "list") = false := by decide
  have h3 : (Value.type "generator" == Value.type "tuple") = false := by decide
  simp only [h1, h2, h3, Bool.or_false, Bool.false_eq_true, if_false]
  refine wpAny_bind (wpAny_pyIter_gen (s := { s1 with heap := _ }) (gty k2) ?_)
  refine wpAny_bind (wpAny_holding ?_)
  unfold Builtin.List.listLengthHint
  refine wpAny_bind (wpAny_specialOf (Heap.IsGen.typeIs (s := { s1 with heap := _ }) (gty k2)) F.gen_no_len ?_)
  show wpAny _ X.A.in1.in1 (specialOf (Value.ref a) (Str.ofString "__length_hint__") >>= _) _ _ _
  refine wpAny_bind (wpAny_specialOf (Heap.IsGen.typeIs (s := { s1 with heap := _ }) (gty k2)) F.gen_no_hint ?_)
  refine wpAny_pure ?_
  show wpAny _ X.A.in1.in1 (rule "list.extend.makes-room" >>= fun _ => Builtin.List.listTouch (.ref s1.heap.objs.size) >>= fun _ =>
    again (.builtin "list.extend.loop" ⟨[.ref s1.heap.objs.size, .ref a, .none], []⟩)) _ _ _
  refine wpAny_bind (wpAny_rule ?_)
  refine wpAny_bind ?_
  show wpAny _ X.A.in1.in1 (updateSeq s1.heap.objs.size (·.push .none) >>= fun _ => updateSeq s1.heap.objs.size (·.pop)) _ _ _
  refine wpAny_bind (wpAny_updateSeq hS2 rfl ?_)
  have hS3 := Heap.get?_update_self (Obj.mapSeq (·.push Value.none)) hS2 rfl
  refine wpAny_updateSeq (hz := by seq_fits) hS3 rfl ?_
  have hS4 := Heap.get?_update_self (Obj.mapSeq (·.pop)) hS3 rfl
  have k4 := up _ (Obj.mapSeq (·.pop)) (up _ (Obj.mapSeq (·.push Value.none)) k2)
  refine wpAny_pure ⟨plainId_quiet F.plain_extend_loop _, ?_⟩
  have S1 : Sub W0.G ((s1.heap.objs.size, .lst []) :: W0.O) (upd W0.H s1.heap.objs.size (.lst [])) := S0.newOwn hp0
  have I2 := I1.laid (X := X.nox) (t' := s1.toks) (o := .lst []) k4 (Nat.le_refl _) ⟨Nat.zero_le _, [], _, .nil, hS4⟩
  have hna : upd W0.H s1.heap.objs.size (.lst []) a = none := by rw [upd_ne (Ne.symm hSa)]; exact M.fa.1
  have hnL : upd W0.H s1.heap.objs.size (.lst []) g.L = none := by rw [upd_ne (Ne.symm hSL)]; exact M.fL.1
  have hnc : upd W0.H s1.heap.objs.size (.lst []) g.c = none := by rw [upd_ne (Ne.symm hSc)]; exact M.cn
  obtain ⟨cw0, go0⟩ := go_first (X := X.nox) (pins' := pins) (σ := σ) (W := W0) (W2 := ⟨W0.G, (s1.heap.objs.size, .lst []) :: W0.O, upd W0.H s1.heap.objs.size (.lst [])⟩) I2 M gP gw gb' go' gA (by rw [gN]; exact okg M.ok) k4 hna hnL hnc (.refl _) S1 (S0.gnone M.cn) hsp
  refine drainX (X := X.nox) (pins := pins) (σ := σ) (g := g) (a := a) (gn := gn) (r := r) (xs := xs) (A := X.A.in1) (G0 := W0.G) (O0 := W0.O) (S := s1.heap.objs.size) T hr.hd (by have := hr.dp; show X.A.depth < _; omega) hsz gA
    (fun s' G1 H' ys e1 S' al I' => ⟨rfl, .ref s1.heap.objs.size, H', I', rfl, hq _ G1 H' ys hp0 e1 S' al⟩) xs.length 0 ⟨W0.G, (s1.heap.objs.size, .lst []) :: W0.O, upd W0.H s1.heap.objs.size (.lst [])⟩ [] _ _ rfl cw0 rfl (.refl _) S1 .nil I2 (k4 _ _ (T.a ▸ M.own.2.1)) M.gs ?_
  exact go0
end GFr

set_option Elab.async false
set_option linter.all false
set_option maxRecDepth 100000
set_option maxHeartbeats 1000000
/-! GtW: generators in worlds: the loops' rules. -/
namespace GFr
open PySem PySem.Spec PyProof.Rows L2 GenW Mr
variable {α τ ρ : Type}
/-- for i in range(lo, n), within a generator -/
theorem lpT_R2 {xs : List Int} {lo n : Int} {tgt : TG} {tb : TGt} {D : GEn} {i0 : Nat} {W0 : Wo} {σ0 : L2.St} {H0 : Hp} (hx : rng2M lo n = some xs) (I : Nat → Nat → Wo → L2.St → Hp → Prop) (h0 : I 0 i0 W0 σ0 H0)
    (hs : ∀ j x i W σ H, xs[j]? = some x → I j i W σ H → tgt (.int x) σ H fun σ2 H2 => tb { D with nx := I (j + 1), ct := I (j + 1), bk := D.nx } i W σ2 H2)
    (hd : ∀ i W σ H, I xs.length i W σ H → D.nx i W σ H) : itR2 [V.int lo, V.int n] H0 (LpT tgt tb D i0 W0 σ0) := by
  obtain ⟨c, rfl⟩ := rng2M_some hx
  have hl : (((List.range (n - lo).toNat).map fun (i : Nat) => lo + (i : Int)) : List Int).length = (n - lo).toNat := by simp
  refine ⟨lo, n, rfl, c, fun j m i W σ H => j + m = (n - lo).toNat ∧ I j i W σ H, ⟨(n - lo).toNat, Nat.zero_add _, h0⟩, fun j m i W σ H ⟨hj, hI⟩ => ?_⟩
  by_cases hc : j < (n - lo).toNat
  · refine .inr ⟨hc, I (j + 1), fun i' W' σ' H' h => ⟨(n - lo).toNat - (j + 1), by omega, by omega, h⟩, fun x H' hy => ?_⟩
    obtain ⟨rfl, rfl⟩ := hy
    refine hs j _ i W σ _ ?_ hI
    rw [List.getElem?_map, List.getElem?_range hc]
    rfl
  · have e : j = (n - lo).toNat := by omega
    subst e
    refine .inl ⟨Nat.le_refl _, hd i W σ H ?_⟩
    rw [hl]; exact hI
/-- what a turn of a loop over a generator leaves -/
def NxG (f : τ → Wrd → Option (Bf τ ρ)) (xs : List Wrd) (res : Fl τ ρ) (J : τ → L2.St → Wo → Prop) (Gb : Hp) (k : Nat) : L2.St → Hp → Prop := fun σ' H' => ∃ W' : Wo, W'.H = H' ∧ Ext Gb W'.G ∧ Sub W'.G W'.O W'.H ∧ ∃ s, J s σ' W' ∧ forL f (xs.drop k) s = some res
theorem nxG {f : τ → Wrd → Option (Bf τ ρ)} {xs : List Wrd} {res : Fl τ ρ} {J : τ → L2.St → Wo → Prop} {I : Hp → τ → L2.St → Hp → Prop} {Gb : Hp} {k : Nat} {σ : L2.St} {H : Hp} (hp : ∀ Gb s σ H, I Gb s σ H → ∃ W : Wo, W.H = H ∧ Ext Gb W.G ∧ Sub W.G W.O W.H ∧ J s σ W)
    (h : PvL f xs res (I Gb) k σ H) : NxG f xs res J Gb k σ H := by
  obtain ⟨s, hI, hf⟩ := h
  obtain ⟨W, e1, e2, e3, hJ⟩ := hp Gb s σ H hI
  exact ⟨W, e1, e2, e3, s, hJ, hf⟩
/-- for word in generator(..) -/
theorem lp_Gt {f : τ → Wrd → Option (Bf τ ρ)} {xs : List Wrd} {s0 : τ} {res : Fl τ ρ} {σ : L2.St} {G H : Hp} {sp : List V → Wo → List Wrd → Prop} {vs : List V} {D : Ends} {tgt : TG} {tb : TS} (hsp : ∀ W : Wo, Ext G W.G → sp vs W xs) (hm : forL f xs s0 = some res)
    (I : Hp → τ → L2.St → Hp → Prop) (J : τ → L2.St → Wo → Prop) (hp : ∀ Gb s σ H, I Gb s σ H → ∃ W : Wo, W.H = H ∧ Ext Gb W.G ∧ Sub W.G W.O W.H ∧ J s σ W)
    (hu : ∀ s σ (W : Wo) G1 H', J s σ W → Ext W.G G1 → Sub G1 W.O H' → I G1 s σ H') (hb : ∀ Ga Gb s σ H, Ext Ga Gb → I Gb s σ H → I Ga s σ H) (h0 : I G s0 σ H)
    (hs : ∀ (i : Nat) (x : Wrd) (s : τ) (b : Bf τ ρ), f s x = some b → conL f (xs.drop (i + 1)) b = some res → ∀ w σ H Gb, Ext G Gb → I Gb s σ H → w = V.str (e_T x) → tgt w σ H fun σ2 H2 => tb { D with nx := NxG f xs res J Gb (i + 1), ct := NxG f xs res J Gb (i + 1), bk := D.nx } σ2 H2)
    (hd : ∀ s σ H, res = .nx s → I G s σ H → D.nx σ H) :
    LpG rTx sp tgt tb D σ vs H := by
  obtain ⟨W0, e1, e2, e3, hJ⟩ := hp G s0 σ H h0
  refine ⟨xs, W0, fun i σ W => ∃ s, J s σ W ∧ forL f (xs.drop i) s = some res, e1, hsp W0 e2, e3, ⟨s0, hJ, hm⟩, fun i σ W ⟨s, hJ, hf⟩ eW SW => ⟨fun hi G1 H' e S => ?_, fun x hx u G1 H' e S hr => ?_⟩⟩
  · subst hi
    rw [List.drop_length] at hf
    cases hf
    exact hd s σ H' rfl (hb G G1 s σ H' (e2.trans (eW.trans e)) (hu s σ W G1 H' hJ e S))
  · obtain ⟨b, hb1, hr1⟩ := forL_drop hx hf
    exact hs i x s b hb1 hr1 u σ H' G1 (e2.trans (eW.trans e)) (hu s σ W G1 H' hJ e S) hr
def LsG (r : Mr.R α) (sp : List V → Wo → List α → Prop) (Q : VK) (vs : List V) (H1 : Hp) : Prop := ∃ (xs : List α) (W0 : Wo), W0.H = H1 ∧ sp vs W0 xs ∧ Sub W0.G W0.O W0.H ∧ xs.length ≤ sizeLine ∧
  ∀ (p : Addr) (G1 H' : Hp) (ys : List V), W0.H p = none → Ext W0.G G1 → Sub G1 ((p, .lst ys) :: W0.O) H' → Al r G1 ys xs → Q (.ref p) H'
/-- list(generator(..)) -/
theorem q_LG {r : Mr.R α} {xs : List α} {sp : List V → Wo → List α → Prop} {vs : List V} {G H : Hp} {O : Own} {Q : VK} (S : Sub G O H) (hsp : ∀ W : Wo, Ext G W.G → sp vs W xs) (hl : xs.length ≤ sizeLine) (q : ∀ v G' H', Ext G G' → Sub G' O H' → R.rel (rM r) G' v xs → Q v H') :
    LsG r sp Q vs H := by
  refine ⟨xs, ⟨G, O, H⟩, rfl, hsp _ (.refl _), S, hl, fun p G1 H' ys _ e S' hal => ?_⟩
  obtain ⟨G2, e2, S2, h2⟩ := frz_M S' hal
  exact q (.ref p) G2 H' (e.trans e2) S2 h2
section
variable {D : GEn} {i : Nat} {W : Wo} {σ : L2.St} {H : Hp} {t u : TGt} {C : Con α}
theorem gAtN (h : D.nx i W σ H) : (D.at i W).nx σ H := h
theorem gGnx {f b c : Nat → Wo → L2.St → Hp → Prop} (h : f i W σ H) : GEn.nx ⟨f, b, c⟩ i W σ H := h
theorem gGc (h : t { D with nx := fun i' W' σ' H' => u D i' W' σ' H' } i W σ H) : tGc t u D i W σ H := h
theorem gGp {ts : TS} (h : ts (D.at i W) σ H) : tGp ts D i W σ H := h
theorem gGfor {wi : TI} {tgt : TG} (h : wi σ H (LpT tgt t D i W σ)) : tGfor wi tgt t D i W σ H := h
theorem gGif {tc : TT} (h : tc σ H fun b H1 => if b = true then t D i W σ H1 else u D i W σ H1) : tGif tc t u D i W σ H := h
theorem gGn (h : D.nx i W σ H) : tGn D i W σ H := h
end
theorem gForG {r : Mr.R α} {sp : List V → Wo → List α → Prop} {tm : TMk} {tgt : TG} {tb : TS} {D : Ends} {σ : L2.St} {H : Hp} (h : tm σ H (LpG r sp tgt tb D σ)) : tForG r sp tm tgt tb D σ H := h
theorem gLG {r : Mr.R α} {sp : List V → Wo → List α → Prop} {tm : TMk} {Q : VK} {σ : L2.St} {H : Hp} (h : tm σ H (LsG r sp Q)) : tListGt r sp tm σ H Q := h
theorem gMkN {n m l : Nat} {gV : List V → List V → List V} {t tk : TA} {σ : L2.St} {H : Hp} {Q : List V → Hp → Prop} (h : t σ H fun vs H1 => tk σ H1 fun zs H2 => vs.length = n ∧ zs.length = m ∧ (gV vs zs).length = l ∧ Q (gV vs zs) H2) : tMkN n m l gV t tk σ H Q := h
theorem gMkD {l : Nat} {dvs : List V} {t : TA} {σ : L2.St} {H : Hp} {Q : List V → Hp → Prop} (h : t σ H fun vs H1 => (vs ++ dvs).length = l ∧ Q (vs ++ dvs) H1) : tMkD l dvs t σ H Q := h
end GFr
namespace Mr
open PySem PySem.Spec PyProof.Rows L2
/-! ### xs.extend(ys), both owned -/
theorem q_extO {α : Type} {r : R α} {G H : Hp} {O : Own} {a b : Addr} {vs ws : List V} {xs ys zs : List α} {Q : VK} (S : Sub G ((a, .lst vs) :: (b, .lst ws) :: O) H) (h1 : Al r G vs xs) (h2 : Al r G ws ys) (e : catM xs ys = some zs) (q : ∀ H' w, Sub G ((a, .lst w) :: O) H' → Al r G w zs → Q .non H') : rExtend (.ref a) [.ref b] H Q := by
  obtain ⟨c, rfl⟩ := catM_some e
  have hb := (S.own (b, .lst ws) (List.mem_cons_of_mem _ (List.mem_cons_self ..))).1
  have S2 : Sub G ((a, .lst (vs ++ ws)) :: (b, .lst ws) :: O) (upd H a (.lst (vs ++ ws))) := S.wr
  refine ⟨a, b, vs, ws, rfl, rfl, S.head, hb, sz (by rw [h1.len, h2.len]; exact c), q _ (vs ++ ws) ?_ (h1.app h2)⟩
  exact ⟨S2.ext, fun p hp => S2.own p ((List.mem_cons.mp hp).elim (fun z => z ▸ List.mem_cons_self ..) fun z => List.mem_cons_of_mem _ (List.mem_cons_of_mem _ z)), by
    have := S2.nd
    simp only [List.map_cons, List.nodup_cons, List.mem_cons, not_or] at this ⊢
    exact ⟨this.1.2, this.2.2⟩, S2.nt⟩
end Mr

set_option linter.all false
set_option maxRecDepth 100000
set_option synthInstance.maxSize 4000
set_option synthInstance.maxHeartbeats 400000
namespace Mr
structure Face where
  apart : Int
  inks : (List (List Ink))
  gaps_and_bars : (List (Wrd × (Int × (Option Int))))
def m_Face_letters (self1 : Face) : Option Wrd :=
  Option.bind (cutT ([97, 98, 99, 100] : Wrd) none (some (self1.inks.length : Int))) fun t1 =>
  some t1

def m_words_up_to_c3 (x2 : Wrd) : (List Wrd) → Wrd → Option ((List Wrd)) := fun acc4 y7 => Option.bind (catT x2 y7) fun t2 =>
  Option.bind (appM acc4 t2) fun acc5 =>
  some acc5
def m_words_up_to_c2 (face1 : Face) : (List Wrd) → Wrd → Option ((List Wrd)) := fun acc2 x2 => Option.bind (m_Face_letters face1) fun r2 =>
  Option.bind (folM (m_words_up_to_c3 x2) (sgT r2) acc2) fun acc3 =>
  some acc3
def m_words_up_to_b4 : ((List Wrd)) → Wrd → Option ((List Wrd)) := fun found8 x4 => Option.bind (appM found8 x4) fun found9 =>
  some found9
def m_words_up_to_b1 (face1 : Face) (least1 : Int) : ((List Wrd) × (List Wrd)) → Int → Option ((List Wrd) × (List Wrd)) := fun s x1 => match s with
  | (words2, found2) => Option.bind (folM (m_words_up_to_c2 face1) words2 ([] : (List Wrd))) fun acc1 =>
  Option.bind (if (decide (x1 ≥ least1)) then (Option.bind (folM (m_words_up_to_b4) acc1 found2) fun found7 =>
  some found7)
  else (some found2)) fun found6 =>
  some (acc1, found6)
def m_words_up_to (face1 : Face) (most1 : Int) (least1 : Int) : Option (List Wrd) :=
  Option.bind (rng2M (1 : Int) (most1 + (1 : Int))) fun xs1 =>
  Option.bind (folM (m_words_up_to_b1 face1 least1) xs1 (([([] : Wrd)] : List Wrd), ([] : List Wrd))) fun (words1, found1) =>
  some found1

def m_is_number (thing1 : Int) : Option Bool :=
  some (true && ((!false) && ((decide ((0 : Int) ≤ thing1)) && (decide (thing1 ≤ (4 : Int))))))

def m_is_corner (thing1 : (Int × Int)) : Option Bool :=
  Option.bind (if (!true) then some true else (some (!decide ((2 : Int) = (2 : Int))))) fun x1 =>
  if x1 then (some false)
  else (Option.bind (Option.bind (m_is_number thing1.1) fun r2 =>
  if r2 then (Option.bind (m_is_number thing1.2) fun r4 =>
  some r4) else some false) fun x2 =>
  some x2)

def m_is_ring_b1 : (Unit) → (Int × Int) → Option (Bf (Unit) Bool) := fun _ x2 => Option.bind (m_is_corner x2) fun r2 =>
  if (!r2) then (some (Bf.rt false))
  else (some (Bf.go ()))
def m_is_ring_b2 (thing1 : (List (Int × Int))) : (Unit) → Int → Option (Bf (Unit) Bool) := fun _ x3 => Option.bind (getM thing1 x3) fun x4 =>
  Option.bind (getM thing1 (x3 - (1 : Int))) fun x5 =>
  if (decide (x4 = x5)) then (some (Bf.rt false))
  else (some (Bf.go ()))
def m_is_ring (thing1 : (List (Int × Int))) : Option Bool :=
  Option.bind (if (!true) then some true else (some (!((decide ((3 : Int) ≤ (thing1.length : Int))) && (decide ((thing1.length : Int) ≤ (8 : Int))))))) fun x1 =>
  if x1 then (some false)
  else (Option.bind (forL (m_is_ring_b1) thing1 ()) fun res => match res with
  | Fl.rt r => some r
  | Fl.nx _ => Option.bind (rngM (thing1.length : Int)) fun xs1 =>
  Option.bind (forL (m_is_ring_b2 thing1) xs1 ()) fun res => match res with
  | Fl.rt r => some r
  | Fl.nx _ => some true)

def m_outline_of_b1 : (Unit) → (Int × (List (Int × Int))) → Option (Bf (Unit) (List (List (Int × Int)))) := fun s x => match s, x with
  | _, (k4, x2) => Option.bind (m_is_ring x2) fun r2 =>
  if (!r2) then (none)
  else (some (Bf.go ()))
def m_outline_of_c3 : ((List (Int × Int))) → (Int × Int) → Option ((List (Int × Int))) := fun acc7 x5 => Option.bind (appM acc7 x5) fun acc8 =>
  some acc8
def m_outline_of_c2 : ((List (List (Int × Int)))) → (List (Int × Int)) → Option ((List (List (Int × Int)))) := fun acc5 x4 => Option.bind (folM (m_outline_of_c3) x4 ([] : (List (Int × Int)))) fun acc6 =>
  Option.bind (appM acc5 acc6) fun acc9 =>
  some acc9
def m_outline_of (letter1 : Wrd) (thing1 : (List (List (Int × Int)))) : Option (List (List (Int × Int))) :=
  Option.bind (if (!true) then some true else (some (!((decide ((1 : Int) ≤ (thing1.length : Int))) && (decide ((thing1.length : Int) ≤ (3 : Int))))))) fun x1 =>
  if x1 then (none)
  else (Option.bind (forL (m_outline_of_b1) (enumM thing1) ()) fun res => match res with
  | Fl.rt r => some r
  | Fl.nx _ => Option.bind (folM (m_outline_of_c2) thing1 ([] : (List (List (Int × Int))))) fun acc4 =>
  some acc4)

def m_count_of (start1 : (Int × Int)) (stop1 : (Int × Int)) (x1 : Int) (y1 : Int) : Option Int :=
  Option.bind (if (decide (start1.2 ≤ stop1.2)) then (some (start1, stop1)) else (some (stop1, start1))) fun x2 =>
  if ((decide (x2.1.2 > y1)) || (decide (x2.2.2 < (y1 + (1 : Int))))) then (some (0 : Int))
  else (Option.bind (mulM ((2 : Int) * x2.1.1) (x2.2.2 - x2.1.2)) fun x3 =>
  Option.bind (mulM (x2.2.1 - x2.1.1) ((((2 : Int) * y1) + (1 : Int)) - ((2 : Int) * x2.1.2))) fun x4 =>
  Option.bind (mulM (((2 : Int) * x1) + (1 : Int)) (x2.2.2 - x2.1.2)) fun x5 =>
  if (decide ((x3 + x4) ≤ x5)) then (some (0 : Int))
  else (some (if (decide (stop1.2 > start1.2)) then (1 : Int) else (-(1 : Int)))))

def m_winding_b2 (x1 : Int) (y1 : Int) : (Int) → ((Int × Int) × (Int × Int)) → Option (Int) := fun s x => match s, x with
  | total4, (x3, x4) => Option.bind (m_count_of x3 x4 x1 y1) fun r1 =>
  some (total4 + r1)
def m_winding_b1 (x1 : Int) (y1 : Int) : (Int) → (List (Int × Int)) → Option (Int) := fun total2 x2 => Option.bind (folM (m_winding_b2 x1 y1) (sidesM x2) total2) fun total3 =>
  some total3
def m_winding (rings1 : (List (List (Int × Int)))) (x1 : Int) (y1 : Int) : Option Int :=
  Option.bind (folM (m_winding_b1 x1 y1) rings1 (0 : Int)) fun total1 =>
  some total1

def m_ink_of_c2 (rings1 : (List (List (Int × Int)))) (x1 : Int) : ((List Ink)) → Int → Option ((List Ink)) := fun acc2 x3 => Option.bind (Option.bind (m_winding rings1 x3 x1) fun r3 =>
  if (!decide (r3 = (0 : Int))) then (some ([true] : Ink)) else (some ([false] : Ink))) fun x4 =>
  Option.bind (appM acc2 x4) fun acc3 =>
  some acc3
def m_ink_of_b1 (rings1 : (List (List (Int × Int)))) : ((List Ink)) → Int → Option ((List Ink)) := fun found2 x1 => Option.bind (rngM (4 : Int)) fun xs2 =>
  Option.bind (folM (m_ink_of_c2 rings1 x1) xs2 ([] : (List Ink))) fun acc1 =>
  Option.bind (joinI acc1) fun k5 =>
  Option.bind (appM found2 k5) fun found3 =>
  some found3
def m_ink_of (rings1 : (List (List (Int × Int)))) : Option (List Ink) :=
  Option.bind (rngM (4 : Int)) fun xs1 =>
  Option.bind (folM (m_ink_of_b1 rings1) xs1 ([] : List Ink)) fun found1 =>
  some found1

def m_leftmost (ink1 : (List Ink)) (row1 : Int) : Option (Option Int) :=
  Option.bind (getM ink1 row1) fun x1 =>
  Option.bind (fndM x1) fun k1 =>
  Option.bind (if (decide (k1 < (0 : Int))) then (some (none : (Option Int))) else (some (some k1))) fun x2 =>
  some x2

def m_rightmost (ink1 : (List Ink)) (row1 : Int) : Option (Option Int) :=
  Option.bind (getM ink1 row1) fun x1 =>
  Option.bind (rfnM x1) fun k1 =>
  Option.bind (if (decide (k1 < (0 : Int))) then (some (none : (Option Int))) else (some (some k1))) fun x2 =>
  some x2

def m_step_of_c1 : ((List Int)) → Ink → Option ((List Int)) := fun acc2 x1 => Option.bind (rfnM x1) fun k3 =>
  Option.bind (appM acc2 k3) fun acc3 =>
  some acc3
def m_step_of (ink1 : (List Ink)) : Option Int :=
  Option.bind (folM (m_step_of_c1) ink1 ([] : (List Int))) fun acc1 =>
  Option.bind (maxM acc1) fun x2 =>
  some (x2 + (1 : Int))

def m_blanks (left1 : (List Ink)) (right1 : (List Ink)) (row1 : Int) (gap1 : Int) : Option (Option Int) :=
  Option.bind (m_rightmost left1 row1) fun r1 =>
  Option.bind (m_leftmost right1 row1) fun r2 =>
  if ((r1.isNone) || (r2.isNone)) then (some (none : (Option Int)))
  else (Option.bind (m_step_of left1) fun r3 =>
  Option.bind (r2) fun j1 =>
  Option.bind (r1) fun j2 =>
  some (some ((((r3 + gap1) + j1) - j2) - (1 : Int))))

def m_bad_count (outlines1 : (List (List (List (Int × Int))))) (apart1 : Int) : Option (Option (List Int)) :=
  if (!((decide ((1 : Int) ≤ (outlines1.length : Int))) && (decide ((outlines1.length : Int) ≤ (4 : Int))))) then (some (some ([(outlines1.length : Int)] : List Int)))
  else (if (!((decide ((0 : Int) ≤ apart1)) && (decide (apart1 ≤ (2 : Int))))) then (some (some ([apart1] : List Int)))
  else (some (none : (Option (List Int)))))

def m_row_that_bars_b1 (left1 : (List Ink)) (right1 : (List Ink)) (gap1 : Int) (apart1 : Int) : (Unit) → Int → Option (Bf (Unit) (Option Int)) := fun _ x1 => Option.bind (m_blanks left1 right1 x1 gap1) fun r1 =>
  Option.bind (if (!r1.isNone) then (Option.bind (r1) fun j1 =>
  some (decide (j1 < apart1))) else some false) fun x2 =>
  if x2 then (some (Bf.rt (some x1)))
  else (some (Bf.go ()))
def m_row_that_bars (left1 : (List Ink)) (right1 : (List Ink)) (gap1 : Int) (apart1 : Int) : Option (Option Int) :=
  Option.bind (rngM (4 : Int)) fun xs1 =>
  Option.bind (forL (m_row_that_bars_b1 left1 right1 gap1 apart1) xs1 ()) fun res => match res with
  | Fl.rt r => some r
  | Fl.nx _ => some (none : (Option Int))

def m_Face_gap_and_bar_b1 (self1 : Int) (left1 : (List Ink)) (right1 : (List Ink)) : (Int × (Option Int)) → Option (Bf (Int × (Option Int)) (Int × (Option Int))) := fun s => match s with
  | (gap2, bar2) => Option.bind (m_row_that_bars left1 right1 gap2 self1) fun r1 =>
  if (!r1.isNone) then (some (Bf.go ((gap2 + (1 : Int)), r1)))
  else (some (Bf.bk (gap2, bar2)))
def m_Face_gap_and_bar (self1 : Int) (left1 : (List Ink)) (right1 : (List Ink)) : Option (Int × (Option Int)) :=
  Option.bind (whL (m_Face_gap_and_bar_b1 self1 left1 right1) 1000000 ((0 : Int), (none : (Option Int)))) fun res => match res with
  | Fl.rt r => some r
  | Fl.nx (gap1, bar1) => some (gap1, bar1)

def m_Face___init___b1 : ((List (List Ink))) → (Wrd × (List (List (Int × Int)))) → Option (Bf ((List (List Ink))) Face) := fun s x => match s, x with
  | found2, (x1, x2) => Option.bind (m_outline_of x1 x2) fun r2 =>
  Option.bind (m_ink_of r2) fun r3 =>
  Option.bind (m_step_of r3) fun r4 =>
  if (decide (r4 = (0 : Int))) then (none)
  else (Option.bind (appM found2 r3) fun found3 =>
  some (Bf.go found3))
def m_Face___init___b3 (apart1 : Int) (x3 : Wrd) (x4 : (List Ink)) : ((List (Wrd × (Int × (Option Int))))) → (Wrd × (List Ink)) → Option ((List (Wrd × (Int × (Option Int))))) := fun s x => match s, x with
  | d_gaps_and_bars4, (x5, x6) => Option.bind (m_Face_gap_and_bar apart1 x4 x6) fun r5 =>
  Option.bind (catT x3 x5) fun t1 =>
  Option.bind (putWM d_gaps_and_bars4 t1 r5) fun kvs1 =>
  some kvs1
def m_Face___init___b2 (apart1 : Int) (found1 : (List (List Ink))) : ((List (Wrd × (Int × (Option Int))))) → (Wrd × (List Ink)) → Option ((List (Wrd × (Int × (Option Int))))) := fun s x => match s, x with
  | d_gaps_and_bars2, (x3, x4) => Option.bind (folM (m_Face___init___b3 apart1 x3 x4) (List.zip (sgT ([97, 98, 99, 100] : Wrd)) found1) d_gaps_and_bars2) fun d_gaps_and_bars3 =>
  some d_gaps_and_bars3
def m_Face___init__ (outlines1 : (List (List (List (Int × Int))))) (apart1 : Int) : Option Face :=
  Option.bind (m_bad_count outlines1 apart1) fun r1 =>
  if (!r1.isNone) then (none)
  else (Option.bind (forL (m_Face___init___b1) (List.zip (sgT ([97, 98, 99, 100] : Wrd)) outlines1) ([] : List (List Ink))) fun res => match res with
  | Fl.rt r => some r
  | Fl.nx found1 => Option.bind (folM (m_Face___init___b2 apart1 found1) (List.zip (sgT ([97, 98, 99, 100] : Wrd)) found1) ([] : (List (Wrd × (Int × (Option Int)))))) fun d_gaps_and_bars1 =>
  some (Face.mk apart1 found1 d_gaps_and_bars1))

def m_law_bag_b1 : (Int) → (Int × Int) → Option (Int) := fun s x => match s, x with
  | mixed2, (k3, x4) => some ((((mixed2 * (16807 : Int)) + (x4 % (2147483629 : Int))) + ((13 : Int) * k3)) % (2147483647 : Int))
def m_law_bag (script1 : (List Int)) (at1 : Int) : Option (List Int) :=
  Option.bind (if (decide (at1 < (script1.length : Int))) then (Option.bind (getM script1 at1) fun x1 =>
  some (if x1 < 0 then -x1 else x1)) else (some (0 : Int))) fun x2 =>
  Option.bind (folM (m_law_bag_b1) (enumM (cutM script1 none (some (63 : Int)))) ((1009 : Int) + ((77 : Int) * at1))) fun mixed1 =>
  some ([(if (decide (x2 ≥ ((10 : Int) ^ (18 : Int).toNat))) then x2 else (0 : Int)), mixed1, (0 : Int)] : List Int)

def m_law_draw (bag_here1 : (List Int)) (many1 : Int) : Option (Int × (List Int)) :=
  Option.bind (getM bag_here1 (0 : Int)) fun x1 =>
  if (decide (x1 > (0 : Int))) then (Option.bind (getM bag_here1 (0 : Int)) fun x2 =>
  Option.bind (modM x2 many1) fun x3 =>
  Option.bind (getM bag_here1 (0 : Int)) fun x4 =>
  Option.bind (fdivM x4 many1) fun x5 =>
  Option.bind (setM bag_here1 (0 : Int) x5) fun bag_here2 =>
  some (x3, bag_here2))
  else (Option.bind (getM bag_here1 (2 : Int)) fun x6 =>
  Option.bind (setM bag_here1 (2 : Int) (x6 + (1 : Int))) fun bag_here3 =>
  Option.bind (getM bag_here3 (1 : Int)) fun x7 =>
  Option.bind (getM bag_here3 (2 : Int)) fun x8 =>
  Option.bind (setM bag_here3 (1 : Int) ((((x7 * (48271 : Int)) + ((11 : Int) * x8)) + (7 : Int)) % (2147483647 : Int))) fun bag_here4 =>
  Option.bind (getM bag_here4 (1 : Int)) fun x9 =>
  Option.bind (getM bag_here4 (2 : Int)) fun x10 =>
  Option.bind (modM ((((x9 * (69621 : Int)) + ((4099 : Int) * x10)) % (2147483629 : Int)) / (128 : Int)) many1) fun x11 =>
  some (x11, bag_here4))

def m_law_one (bag_here1 : (List Int)) (things1 : (List Int)) : Option (Int × (List Int)) :=
  Option.bind (m_law_draw bag_here1 (things1.length : Int)) fun (r1, bag_here2) =>
  Option.bind (getM things1 r1) fun x1 =>
  some (x1, bag_here2)

def m_law_box (bag_here1 : (List Int)) (wide1 : Int) : Option ((List (Int × Int)) × (List Int)) :=
  Option.bind (m_law_draw bag_here1 wide1) fun (r1, bag_here2) =>
  Option.bind (m_law_draw bag_here2 (4 : Int)) fun (r2, bag_here3) =>
  Option.bind (m_law_draw bag_here3 (wide1 - r1)) fun (r3, bag_here4) =>
  Option.bind (m_law_draw bag_here4 ((4 : Int) - r2)) fun (r4, bag_here5) =>
  some (([(r1, r2), (((r1 + (1 : Int)) + r3), r2), (((r1 + (1 : Int)) + r3), ((r2 + (1 : Int)) + r4)), (r1, ((r2 + (1 : Int)) + r4))] : List (Int × Int)), bag_here5)

def m_law_outlines_b1 (wide1 : Int) : ((List Int) × (List (List (List (Int × Int))))) → Int → Option ((List Int) × (List (List (List (Int × Int))))) := fun s x1 => match s with
  | (bag_here3, found2) => Option.bind (m_law_box bag_here3 wide1) fun (r1, bag_here4) =>
  Option.bind (Option.bind (m_law_draw bag_here4 (2 : Int)) fun (r4, bag_here8) =>
  if (decide (r4 = (1 : Int))) then (Option.bind (m_law_box bag_here8 wide1) fun (r5, bag_here9) =>
  Option.bind (appM ([r1] : List (List (Int × Int))) r5) fun rings3 =>
  some (bag_here9, rings3))
  else (some (bag_here8, ([r1] : List (List (Int × Int)))))) fun (bag_here7, rings2) =>
  Option.bind (appM found2 rings2) fun found3 =>
  some (bag_here7, found3)
def m_law_outlines (bag_here1 : (List Int)) (many1 : Int) (wide1 : Int) : Option ((List (List (List (Int × Int)))) × (List Int)) :=
  Option.bind (rngM many1) fun xs1 =>
  Option.bind (folM (m_law_outlines_b1 wide1) xs1 (bag_here1, ([] : List (List (List (Int × Int)))))) fun (bag_here2, found1) =>
  some (found1, bag_here2)

def m_law_word_of_b1 (many1 : Int) : (Int × Wrd) → Int → Option (Int × Wrd) := fun s x1 => match s with
  | (number3, word2) => Option.bind (modM number3 many1) fun x2 =>
  Option.bind (getT ([97, 98, 99, 100] : Wrd) x2) fun t1 =>
  Option.bind (catT t1 word2) fun t2 =>
  Option.bind (fdivM number3 many1) fun x3 =>
  some (x3, t2)
def m_law_word_of (number1 : Int) (many1 : Int) (length1 : Int) : Option Wrd :=
  Option.bind (rngM length1) fun xs1 =>
  Option.bind (folM (m_law_word_of_b1 many1) xs1 (number1, ([] : Wrd))) fun (number2, word1) =>
  some word1

def m_law_all_c2 (many1 : Int) (x1 : Int) : ((List Wrd)) → Int → Option ((List Wrd)) := fun acc5 x4 => Option.bind (m_law_word_of x4 many1 x1) fun r4 =>
  Option.bind (appM acc5 r4) fun acc6 =>
  some acc6
def m_law_all_b1 (many1 : Int) (least1 : Int) : ((List Wrd) × Int) → Int → Option ((List Wrd) × Int) := fun s x1 => match s with
  | (found2, count2) => Option.bind (mulM count2 many1) fun x2 =>
  Option.bind (if (decide (x1 ≥ least1)) then (Option.bind (rngM x2) fun xs3 =>
  Option.bind (folM (m_law_all_c2 many1 x1) xs3 ([] : (List Wrd))) fun acc4 =>
  Option.bind (catM found2 acc4) fun found5 =>
  some found5)
  else (some found2)) fun found4 =>
  some (found4, x2)
def m_law_all (many1 : Int) (least1 : Int) (most1 : Int) : Option (List Wrd) :=
  Option.bind (rng2M (1 : Int) (most1 + (1 : Int))) fun xs1 =>
  Option.bind (folM (m_law_all_b1 many1 least1) xs1 (([] : List Wrd), (1 : Int))) fun (found1, count1) =>
  some found1

def m_law_begin_b1 (stop1 : Int) : ((List Wrd)) → Wrd → Option (Bf ((List Wrd)) (List Wrd)) := fun found2 x1 => if (decide ((found2.length : Int) ≥ stop1)) then (some (Bf.bk found2))
  else (Option.bind (appM found2 x1) fun found3 =>
  some (Bf.go found3))
def m_law_begin (face1 : Face) (most1 : Int) (least1 : Int) (stop1 : Int) : Option (List Wrd) :=
  Option.bind (m_words_up_to face1 most1 least1) fun r2 =>
  Option.bind (forL (m_law_begin_b1 stop1) r2 ([] : List Wrd)) fun res => match res with
  | Fl.rt r => some r
  | Fl.nx found1 => some found1

def m_law_stands_b1 (two1 : Face) : ((List (Wrd × (List Wrd)))) → Wrd → Option (Bf ((List (Wrd × (List Wrd)))) Bool) := fun inside2 x1 => if (decide ((inside2.length : Int) ≥ (4 : Int))) then (some (Bf.bk inside2))
  else (Option.bind (m_words_up_to two1 (2 : Int) (1 : Int)) fun r8 =>
  Option.bind (appM inside2 (x1, r8)) fun inside3 =>
  some (Bf.go inside3))
def m_law_stands_c2 (other1 : Int) : ((List (Wrd × (List Wrd)))) → Wrd → Option ((List (Wrd × (List Wrd)))) := fun acc2 x2 => Option.bind (m_law_all other1 (1 : Int) (2 : Int)) fun r10 =>
  Option.bind (appM acc2 (x2, r10)) fun acc3 =>
  some acc3
def m_law_stands (one_here1 : Face) (two1 : Face) (many1 : Int) (other1 : Int) (most1 : Int) (least1 : Int) : Option Bool :=
  Option.bind (m_law_all many1 least1 most1) fun r1 =>
  Option.bind (m_law_all other1 least1 most1) fun r2 =>
  Option.bind (m_words_up_to one_here1 most1 least1) fun r4 =>
  Option.bind (ifM ((r4.all fun z => (okW z)) && (r1.all fun z => (okW z))) (decide (r4 = r1))) fun b1 =>
  if (!b1) then (some false)
  else (Option.bind (m_words_up_to one_here1 most1 least1) fun r6 =>
  Option.bind (forL (m_law_stands_b1 two1) r6 ([] : List (Wrd × (List Wrd)))) fun res => match res with
  | Fl.rt r => some r
  | Fl.nx inside1 => Option.bind (folM (m_law_stands_c2 other1) (cutM r1 none (some (4 : Int))) ([] : (List (Wrd × (List Wrd))))) fun acc1 =>
  Option.bind (ifM ((inside1.all fun z => ((okW z.1) && (z.2.all fun z => (okW z)))) && (acc1.all fun z => ((okW z.1) && (z.2.all fun z => (okW z))))) (decide (inside1 = acc1))) fun b3 =>
  if (!b3) then (some false)
  else (Option.bind (Option.bind (m_law_begin one_here1 most1 least1 ((r1.length : Int) / (2 : Int))) fun r11 =>
  Option.bind (ifM ((r11.all fun z => (okW z)) && ((cutM r1 none (some ((r1.length : Int) / (2 : Int)))).all fun z => (okW z))) (decide (r11 = (cutM r1 none (some ((r1.length : Int) / (2 : Int))))))) fun b4 =>
  if (!b4) then some true else (Option.bind (m_law_begin two1 most1 least1 (3 : Int)) fun r12 =>
  Option.bind (ifM ((r12.all fun z => (okW z)) && ((cutM r2 none (some (3 : Int))).all fun z => (okW z))) (decide (r12 = (cutM r2 none (some (3 : Int)))))) fun b5 =>
  some (!b5))) fun x3 =>
  if x3 then (some false)
  else (Option.bind (m_words_up_to two1 most1 (1 : Int)) fun r16 =>
  Option.bind (m_law_all other1 (1 : Int) most1) fun r17 =>
  Option.bind (ifM ((r16.all fun z => (okW z)) && (r17.all fun z => (okW z))) (decide (r16 = r17))) fun b9 =>
  some b9)))

def m_law_b1 (script1 : (List Int)) : (Unit) → Int → Option (Bf (Unit) Bool) := fun _ x1 => Option.bind (m_law_bag script1 x1) fun r1 =>
  Option.bind (m_law_draw r1 (4 : Int)) fun (r2, r3) =>
  Option.bind (m_law_draw r3 (4 : Int)) fun (r4, r5) =>
  Option.bind (m_law_outlines r5 ((1 : Int) + r2) (4 : Int)) fun (r6, r7) =>
  Option.bind (m_Face___init__ r6 (1 : Int)) fun r8 =>
  Option.bind (m_law_outlines r7 ((1 : Int) + r4) (4 : Int)) fun (r9, r10) =>
  Option.bind (m_Face___init__ r9 (0 : Int)) fun r11 =>
  Option.bind (if (decide ((if ((1 : Int) + r4) > ((1 : Int) + r2) then ((1 : Int) + r4) else ((1 : Int) + r2)) > (2 : Int))) then (Option.bind (m_law_one r10 ([(1 : Int), (2 : Int), (3 : Int), (3 : Int), (4 : Int), (0 : Int)] : List Int)) fun (r12, r13) =>
  some (r12, r13)) else (Option.bind (m_law_draw r10 (7 : Int)) fun (r14, r15) =>
  some (r14, r15))) fun (x2, bag_here1) =>
  Option.bind (m_law_draw bag_here1 (7 : Int)) fun (r22, bag_here3) =>
  Option.bind (m_law_stands r8 r11 ((1 : Int) + r2) ((1 : Int) + r4) x2 ((1 : Int) + r22)) fun r23 =>
  if (!r23) then (some (Bf.rt false))
  else (Option.bind (m_law_draw bag_here3 (x2 + (1 : Int))) fun (r26, bag_here5) =>
  Option.bind (m_law_stands r11 r8 ((1 : Int) + r4) ((1 : Int) + r2) x2 ((1 : Int) + r26)) fun r27 =>
  if (!r27) then (some (Bf.rt false))
  else (some (Bf.go ())))
def m_law (script1 : (List Int)) : Option Bool :=
  Option.bind (rngM (if (if (script1.length : Int) < (2 : Int) then (script1.length : Int) else (2 : Int)) > (1 : Int) then (if (script1.length : Int) < (2 : Int) then (script1.length : Int) else (2 : Int)) else (1 : Int))) fun xs1 =>
  Option.bind (forL (m_law_b1 script1) xs1 ()) fun res => match res with
  | Fl.rt r => some r
  | Fl.nx _ => some true
end Mr

set_option Elab.async false
set_option linter.all false
set_option maxRecDepth 100000
set_option maxHeartbeats 4000000
set_option synthInstance.maxSize 4000
set_option synthInstance.maxHeartbeats 400000
namespace Mr
open PySem PySem.Spec PyProof.Rows L2
def clsX (i : Nat) (s : Stmt) : Stmt := match s with
  | .ClassDef _ _ _ body _ _ _ _ _ _ _ => body.getD i (.Pass ⟨0, 0, 0, 0⟩)
  | s => s
def top (i : Nat) : Stmt := PySem.Challenge.pw_pressalike_k06_words_in_their_order.main.body.getD i (.Pass ⟨0, 0, 0, 0⟩)
abbrev s_each_side : Stmt := top 18
def s_Face_letters : Stmt := clsX 3 (top 32)
abbrev s_words_up_to : Stmt := top 8
abbrev s_is_number : Stmt := top 14
abbrev s_is_corner : Stmt := top 15
abbrev s_is_ring : Stmt := top 16
abbrev s_outline_of : Stmt := top 17
abbrev s_count_of : Stmt := top 19
abbrev s_winding : Stmt := top 20
abbrev s_ink_of : Stmt := top 22
abbrev s_leftmost : Stmt := top 23
abbrev s_rightmost : Stmt := top 24
abbrev s_step_of : Stmt := top 25
abbrev s_blanks : Stmt := top 26
abbrev s_bad_count : Stmt := top 30
abbrev s_row_that_bars : Stmt := top 31
def s_Face_gap_and_bar : Stmt := clsX 1 (top 32)
def s_Face___init__ : Stmt := clsX 0 (top 32)
abbrev s_law_bag : Stmt := top 34
abbrev s_law_draw : Stmt := top 35
abbrev s_law_one : Stmt := top 36
abbrev s_law_box : Stmt := top 37
abbrev s_law_outlines : Stmt := top 38
abbrev s_law_word_of : Stmt := top 39
abbrev s_law_all : Stmt := top 40
abbrev s_law_begin : Stmt := top 41
abbrev s_law_stands : Stmt := top 42
abbrev s_law : Stmt := top 43
structure Tx (K : PySem.W.Frag) (mg : Str → Option Value) where
  fd_each_side : FuncData
  F_each_side : FunD K "each_side" "each_side" (defArgs s_each_side) (defBody s_each_side) (defScope s_each_side) [] [] (He.fAd K ("each_side", none)) fd_each_side
  g_each_side : mg "each_side" = some (.ref (He.fAd K ("each_side", none)))
  b_each_side : Binds K fd_each_side ["ring"] []
  fd_Face_letters : FuncData
  F_Face_letters : FunD K "letters" "Face.letters" (defArgs s_Face_letters) (defBody s_Face_letters) (defScope s_Face_letters) [] [] (gAd K "Face" "letters") fd_Face_letters
  b_Face_letters : Binds K fd_Face_letters ["self"] []
  p_Face_letters : PropOf K (He.ga K "Face") "letters" (pAd K "Face" "letters") (gAd K "Face" "letters")
  fd_words_up_to : FuncData
  F_words_up_to : FunD K "words_up_to" "words_up_to" (defArgs s_words_up_to) (defBody s_words_up_to) (defScope s_words_up_to) [] [("least", .int 1)] (He.fAd K ("words_up_to", none)) fd_words_up_to
  g_words_up_to : mg "words_up_to" = some (.ref (He.fAd K ("words_up_to", none)))
  fd_is_number : FuncData
  F_is_number : FunD K "is_number" "is_number" (defArgs s_is_number) (defBody s_is_number) (defScope s_is_number) [] [] (He.fAd K ("is_number", none)) fd_is_number
  g_is_number : mg "is_number" = some (.ref (He.fAd K ("is_number", none)))
  b_is_number : Binds K fd_is_number ["thing"] []
  fd_is_corner : FuncData
  F_is_corner : FunD K "is_corner" "is_corner" (defArgs s_is_corner) (defBody s_is_corner) (defScope s_is_corner) [] [] (He.fAd K ("is_corner", none)) fd_is_corner
  g_is_corner : mg "is_corner" = some (.ref (He.fAd K ("is_corner", none)))
  b_is_corner : Binds K fd_is_corner ["thing"] []
  fd_is_ring : FuncData
  F_is_ring : FunD K "is_ring" "is_ring" (defArgs s_is_ring) (defBody s_is_ring) (defScope s_is_ring) [] [] (He.fAd K ("is_ring", none)) fd_is_ring
  g_is_ring : mg "is_ring" = some (.ref (He.fAd K ("is_ring", none)))
  b_is_ring : Binds K fd_is_ring ["thing"] []
  fd_outline_of : FuncData
  F_outline_of : FunD K "outline_of" "outline_of" (defArgs s_outline_of) (defBody s_outline_of) (defScope s_outline_of) [] [] (He.fAd K ("outline_of", none)) fd_outline_of
  g_outline_of : mg "outline_of" = some (.ref (He.fAd K ("outline_of", none)))
  b_outline_of : Binds K fd_outline_of ["letter", "thing"] []
  fd_count_of : FuncData
  F_count_of : FunD K "count_of" "count_of" (defArgs s_count_of) (defBody s_count_of) (defScope s_count_of) [] [] (He.fAd K ("count_of", none)) fd_count_of
  g_count_of : mg "count_of" = some (.ref (He.fAd K ("count_of", none)))
  b_count_of : Binds K fd_count_of ["start", "stop", "x", "y"] []
  fd_winding : FuncData
  F_winding : FunD K "winding" "winding" (defArgs s_winding) (defBody s_winding) (defScope s_winding) [] [] (He.fAd K ("winding", none)) fd_winding
  g_winding : mg "winding" = some (.ref (He.fAd K ("winding", none)))
  b_winding : Binds K fd_winding ["rings", "x", "y"] []
  fd_ink_of : FuncData
  F_ink_of : FunD K "ink_of" "ink_of" (defArgs s_ink_of) (defBody s_ink_of) (defScope s_ink_of) [] [] (He.fAd K ("ink_of", none)) fd_ink_of
  g_ink_of : mg "ink_of" = some (.ref (He.fAd K ("ink_of", none)))
  b_ink_of : Binds K fd_ink_of ["rings"] []
  fd_leftmost : FuncData
  F_leftmost : FunD K "leftmost" "leftmost" (defArgs s_leftmost) (defBody s_leftmost) (defScope s_leftmost) [] [] (He.fAd K ("leftmost", none)) fd_leftmost
  g_leftmost : mg "leftmost" = some (.ref (He.fAd K ("leftmost", none)))
  b_leftmost : Binds K fd_leftmost ["ink", "row"] []
  fd_rightmost : FuncData
  F_rightmost : FunD K "rightmost" "rightmost" (defArgs s_rightmost) (defBody s_rightmost) (defScope s_rightmost) [] [] (He.fAd K ("rightmost", none)) fd_rightmost
  g_rightmost : mg "rightmost" = some (.ref (He.fAd K ("rightmost", none)))
  b_rightmost : Binds K fd_rightmost ["ink", "row"] []
  fd_step_of : FuncData
  F_step_of : FunD K "step_of" "step_of" (defArgs s_step_of) (defBody s_step_of) (defScope s_step_of) [] [] (He.fAd K ("step_of", none)) fd_step_of
  g_step_of : mg "step_of" = some (.ref (He.fAd K ("step_of", none)))
  b_step_of : Binds K fd_step_of ["ink"] []
  fd_blanks : FuncData
  F_blanks : FunD K "blanks" "blanks" (defArgs s_blanks) (defBody s_blanks) (defScope s_blanks) [] [] (He.fAd K ("blanks", none)) fd_blanks
  g_blanks : mg "blanks" = some (.ref (He.fAd K ("blanks", none)))
  b_blanks : Binds K fd_blanks ["left", "right", "row", "gap"] []
  fd_bad_count : FuncData
  F_bad_count : FunD K "bad_count" "bad_count" (defArgs s_bad_count) (defBody s_bad_count) (defScope s_bad_count) [] [] (He.fAd K ("bad_count", none)) fd_bad_count
  g_bad_count : mg "bad_count" = some (.ref (He.fAd K ("bad_count", none)))
  b_bad_count : Binds K fd_bad_count ["outlines", "apart"] []
  fd_row_that_bars : FuncData
  F_row_that_bars : FunD K "row_that_bars" "row_that_bars" (defArgs s_row_that_bars) (defBody s_row_that_bars) (defScope s_row_that_bars) [] [] (He.fAd K ("row_that_bars", none)) fd_row_that_bars
  g_row_that_bars : mg "row_that_bars" = some (.ref (He.fAd K ("row_that_bars", none)))
  b_row_that_bars : Binds K fd_row_that_bars ["left", "right", "gap", "apart"] []
  fd_Face_gap_and_bar : FuncData
  F_Face_gap_and_bar : FunD K "gap_and_bar" "Face.gap_and_bar" (defArgs s_Face_gap_and_bar) (defBody s_Face_gap_and_bar) (defScope s_Face_gap_and_bar) [] [] (He.fAd K ("Face", some "gap_and_bar")) fd_Face_gap_and_bar
  b_Face_gap_and_bar : Binds K fd_Face_gap_and_bar ["self", "left", "right"] []
  m_Face_gap_and_bar : Meth K (He.ga K "Face") "gap_and_bar" (He.fAd K ("Face", some "gap_and_bar"))
  fd_Face___init__ : FuncData
  F_Face___init__ : FunD K "__init__" "Face.__init__" (defArgs s_Face___init__) (defBody s_Face___init__) (defScope s_Face___init__) [.int 1] [] (He.ma K (He.ga K "Face") "__init__") fd_Face___init__
  mk_Face : Mk K (He.ga K "Face") (He.ma K (He.ga K "Face") "__init__")
  fd_law_bag : FuncData
  F_law_bag : FunD K "_law_bag" "_law_bag" (defArgs s_law_bag) (defBody s_law_bag) (defScope s_law_bag) [] [] (He.fAd K ("_law_bag", none)) fd_law_bag
  g_law_bag : mg "_law_bag" = some (.ref (He.fAd K ("_law_bag", none)))
  b_law_bag : Binds K fd_law_bag ["_law_script", "_law_at"] []
  fd_law_draw : FuncData
  F_law_draw : FunD K "_law_draw" "_law_draw" (defArgs s_law_draw) (defBody s_law_draw) (defScope s_law_draw) [] [] (He.fAd K ("_law_draw", none)) fd_law_draw
  g_law_draw : mg "_law_draw" = some (.ref (He.fAd K ("_law_draw", none)))
  b_law_draw : Binds K fd_law_draw ["_law_bag_here", "_law_many"] []
  fd_law_one : FuncData
  F_law_one : FunD K "_law_one" "_law_one" (defArgs s_law_one) (defBody s_law_one) (defScope s_law_one) [] [] (He.fAd K ("_law_one", none)) fd_law_one
  g_law_one : mg "_law_one" = some (.ref (He.fAd K ("_law_one", none)))
  b_law_one : Binds K fd_law_one ["_law_bag_here", "_law_things"] []
  fd_law_box : FuncData
  F_law_box : FunD K "_law_box" "_law_box" (defArgs s_law_box) (defBody s_law_box) (defScope s_law_box) [] [] (He.fAd K ("_law_box", none)) fd_law_box
  g_law_box : mg "_law_box" = some (.ref (He.fAd K ("_law_box", none)))
  b_law_box : Binds K fd_law_box ["_law_bag_here", "_law_wide"] []
  fd_law_outlines : FuncData
  F_law_outlines : FunD K "_law_outlines" "_law_outlines" (defArgs s_law_outlines) (defBody s_law_outlines) (defScope s_law_outlines) [] [] (He.fAd K ("_law_outlines", none)) fd_law_outlines
  g_law_outlines : mg "_law_outlines" = some (.ref (He.fAd K ("_law_outlines", none)))
  b_law_outlines : Binds K fd_law_outlines ["_law_bag_here", "_law_many", "_law_wide"] []
  fd_law_word_of : FuncData
  F_law_word_of : FunD K "_law_word_of" "_law_word_of" (defArgs s_law_word_of) (defBody s_law_word_of) (defScope s_law_word_of) [] [] (He.fAd K ("_law_word_of", none)) fd_law_word_of
  g_law_word_of : mg "_law_word_of" = some (.ref (He.fAd K ("_law_word_of", none)))
  b_law_word_of : Binds K fd_law_word_of ["_law_number", "_law_many", "_law_length"] []
  fd_law_all : FuncData
  F_law_all : FunD K "_law_all" "_law_all" (defArgs s_law_all) (defBody s_law_all) (defScope s_law_all) [] [] (He.fAd K ("_law_all", none)) fd_law_all
  g_law_all : mg "_law_all" = some (.ref (He.fAd K ("_law_all", none)))
  b_law_all : Binds K fd_law_all ["_law_many", "_law_least", "_law_most"] []
  fd_law_begin : FuncData
  F_law_begin : FunD K "_law_begin" "_law_begin" (defArgs s_law_begin) (defBody s_law_begin) (defScope s_law_begin) [] [] (He.fAd K ("_law_begin", none)) fd_law_begin
  g_law_begin : mg "_law_begin" = some (.ref (He.fAd K ("_law_begin", none)))
  b_law_begin : Binds K fd_law_begin ["_law_face", "_law_most", "_law_least", "_law_stop"] []
  fd_law_stands : FuncData
  F_law_stands : FunD K "_law_stands" "_law_stands" (defArgs s_law_stands) (defBody s_law_stands) (defScope s_law_stands) [] [] (He.fAd K ("_law_stands", none)) fd_law_stands
  g_law_stands : mg "_law_stands" = some (.ref (He.fAd K ("_law_stands", none)))
  b_law_stands : Binds K fd_law_stands ["_law_one_here", "_law_two", "_law_many", "_law_other", "_law_most", "_law_least"] []
  fd_law : FuncData
  F_law : FunD K "law" "law" (defArgs s_law) (defBody s_law) (defScope s_law) [] [] (He.fAd K ("law", none)) fd_law
  g_law : mg "law" = some (.ref (He.fAd K ("law", none)))
  b_law : Binds K fd_law ["_law_script"] []
  z_abs : mg "abs" = none
  z_bool : mg "bool" = none
  z_enumerate : mg "enumerate" = none
  z_int : mg "int" = none
  z_isinstance : mg "isinstance" = none
  z_len : mg "len" = none
  z_list : mg "list" = none
  z_max : mg "max" = none
  z_min : mg "min" = none
  z_range : mg "range" = none
  z_tuple : mg "tuple" = none
  z_zip : mg "zip" = none
  c_GRID : ∃ t, mg "GRID" = some (.int 4 t)
  c_LEAST_CORNERS : ∃ t, mg "LEAST_CORNERS" = some (.int 3 t)
  c_LETTERS : ∃ t, mg "LETTERS" = some (.str (e_T ([97, 98, 99, 100] : Wrd)) t)
  c_MOST_APART : ∃ t, mg "MOST_APART" = some (.int 2 t)
  c_MOST_CORNERS : ∃ t, mg "MOST_CORNERS" = some (.int 8 t)
  c_MOST_RINGS : ∃ t, mg "MOST_RINGS" = some (.int 3 t)
  cl_Face : Cls K (He.ga K "Face")
  gc_Face : mg "Face" = some (.ref (He.ga K "Face"))
  n_Face_apart : NoAttr K (He.ga K "Face") "apart"
  n_Face_gaps_and_bars : NoAttr K (He.ga K "Face") "gaps_and_bars"
  n_Face_inks : NoAttr K (He.ga K "Face") "inks"
theorem es_D {K : PySem.W.Frag} {mg : Str → Option Value} (T : Tx K mg) : GFr.EsD K mg (He.fAd K ("each_side", none)) T.fd_each_side (defBody s_each_side) (GFr.forB (defBody s_each_side)) (GFr.forP (defBody s_each_side)) :=
  ⟨⟨_, _, _, _, _, _, rfl⟩, ⟨_, _, _, _, _, _, _, _, _, _, _, _, _, _, _, _, _, rfl⟩, ⟨_, _, T.F_each_side, ⟨rfl, rfl, rfl, by decide +kernel, rfl, by decide +kernel, by decide +kernel⟩, rfl, rfl, rfl, rfl⟩, T.b_each_side, T.g_each_side, T.z_len, T.z_range⟩
def rI_Face (K : PySem.W.Frag) : R Face := ⟨fun G v x => ∃ v0 v1 v2, InsAt (He.ga K "Face") [("apart", v0), ("inks", v1), ("gaps_and_bars", v2)] G v ∧ R.rel rInt G v0 x.apart ∧ R.rel (rT K (rT K (rEn e_Ink))) G v1 x.inks ∧ R.rel (rSD (rP2 K rInt (rO rInt))) G v2 x.gaps_and_bars,
  fun e ⟨v0, v1, v2, h, h0, h1, h2⟩ => ⟨v0, v1, v2, h.up e, R.up e h0, R.up e h1, R.up e h2⟩⟩
def sp_Face_letters (K : PySem.W.Frag) (w : World) : Sp := fun vs H Q _ => ∃ (G : Hp) (O : Own) (v1 : V) (self1 : Face), vs = [v1] ∧ Sub G (O) H ∧ R.rel (rI_Face K) G v1 self1 ∧ ∃ res, m_Face_letters self1 = some res ∧
  ∀ (G' H' : Hp), Ext G G' → Sub G' (O) H' → Q (V.str (e_T res)) H'
def sp_words_up_to (K : PySem.W.Frag) (w : World) : Sp := fun vs H Q _ => ∃ (G : Hp) (O : Own) (v1 : V) (face1 : Face) (most1 : Int) (least1 : Int), vs = [v1, (V.int most1), (V.int least1)] ∧ Sub G (O) H ∧ R.rel (rI_Face K) G v1 face1 ∧ ∃ res, m_words_up_to face1 most1 least1 = some res ∧
  ∀ (v : V) (G' H' : Hp), Ext G G' → Sub G' (O) H' → R.rel (rM rTx) G' v res → Q v H'
def sp_is_number (K : PySem.W.Frag) (w : World) : Sp := fun vs H Q _ => ∃ (G : Hp) (O : Own) (thing1 : Int), vs = [(V.int thing1)] ∧ Sub G (O) H ∧ ∃ res, m_is_number thing1 = some res ∧
  ∀ (G' H' : Hp), Ext G G' → Sub G' (O) H' → Q (V.bl res) H'
def sp_is_corner (K : PySem.W.Frag) (w : World) : Sp := fun vs H Q _ => ∃ (G : Hp) (O : Own) (v1 : V) (thing1 : (Int × Int)), vs = [v1] ∧ Sub G (O) H ∧ R.rel (rP2 K rInt rInt) G v1 thing1 ∧ ∃ res, m_is_corner thing1 = some res ∧
  ∀ (G' H' : Hp), Ext G G' → Sub G' (O) H' → Q (V.bl res) H'
def sp_is_ring (K : PySem.W.Frag) (w : World) : Sp := fun vs H Q _ => ∃ (G : Hp) (O : Own) (v1 : V) (thing1 : (List (Int × Int))), vs = [v1] ∧ Sub G (O) H ∧ R.rel (rM (rP2 K rInt rInt)) G v1 thing1 ∧ ∃ res, m_is_ring thing1 = some res ∧
  ∀ (G' H' : Hp), Ext G G' → Sub G' (O) H' → Q (V.bl res) H'
def sp_outline_of (K : PySem.W.Frag) (w : World) : Sp := fun vs H Q _ => ∃ (G : Hp) (O : Own) (letter1 : Wrd) (v1 : V) (thing1 : (List (List (Int × Int)))), vs = [(V.str (e_T letter1)), v1] ∧ Sub G (O) H ∧ R.rel (rM (rM (rP2 K rInt rInt))) G v1 thing1 ∧ ∃ res, m_outline_of letter1 thing1 = some res ∧
  ∀ (v : V) (G' H' : Hp), Ext G G' → Sub G' (O) H' → R.rel (rT K (rT K (rP2 K rInt rInt))) G' v res → Q v H'
def sp_count_of (K : PySem.W.Frag) (w : World) : Sp := fun vs H Q _ => ∃ (G : Hp) (O : Own) (v1 : V) (start1 : (Int × Int)) (v2 : V) (stop1 : (Int × Int)) (x1 : Int) (y1 : Int), vs = [v1, v2, (V.int x1), (V.int y1)] ∧ Sub G (O) H ∧ R.rel (rP2 K rInt rInt) G v1 start1 ∧ R.rel (rP2 K rInt rInt) G v2 stop1 ∧ ∃ res, m_count_of start1 stop1 x1 y1 = some res ∧
  ∀ (G' H' : Hp), Ext G G' → Sub G' (O) H' → Q (V.int res) H'
def sp_winding (K : PySem.W.Frag) (w : World) : Sp := fun vs H Q _ => ∃ (G : Hp) (O : Own) (v1 : V) (rings1 : (List (List (Int × Int)))) (x1 : Int) (y1 : Int), vs = [v1, (V.int x1), (V.int y1)] ∧ Sub G (O) H ∧ R.rel (rQ K (rQ K (rP2 K rInt rInt))) G v1 rings1 ∧ ∃ res, m_winding rings1 x1 y1 = some res ∧
  ∀ (G' H' : Hp), Ext G G' → Sub G' (O) H' → Q (V.int res) H'
def sp_ink_of (K : PySem.W.Frag) (w : World) : Sp := fun vs H Q _ => ∃ (G : Hp) (O : Own) (v1 : V) (rings1 : (List (List (Int × Int)))), vs = [v1] ∧ Sub G (O) H ∧ R.rel (rQ K (rQ K (rP2 K rInt rInt))) G v1 rings1 ∧ ∃ res, m_ink_of rings1 = some res ∧
  ∀ (v : V) (G' H' : Hp), Ext G G' → Sub G' (O) H' → R.rel (rT K (rEn e_Ink)) G' v res → Q v H'
def sp_leftmost (K : PySem.W.Frag) (w : World) : Sp := fun vs H Q _ => ∃ (G : Hp) (O : Own) (v1 : V) (ink1 : (List Ink)) (row1 : Int), vs = [v1, (V.int row1)] ∧ Sub G (O) H ∧ R.rel (rT K (rEn e_Ink)) G v1 ink1 ∧ ∃ res, m_leftmost ink1 row1 = some res ∧
  ∀ (v : V) (G' H' : Hp), Ext G G' → Sub G' (O) H' → R.rel (rO rInt) G' v res → Q v H'
def sp_rightmost (K : PySem.W.Frag) (w : World) : Sp := fun vs H Q _ => ∃ (G : Hp) (O : Own) (v1 : V) (ink1 : (List Ink)) (row1 : Int), vs = [v1, (V.int row1)] ∧ Sub G (O) H ∧ R.rel (rT K (rEn e_Ink)) G v1 ink1 ∧ ∃ res, m_rightmost ink1 row1 = some res ∧
  ∀ (v : V) (G' H' : Hp), Ext G G' → Sub G' (O) H' → R.rel (rO rInt) G' v res → Q v H'
def sp_step_of (K : PySem.W.Frag) (w : World) : Sp := fun vs H Q _ => ∃ (G : Hp) (O : Own) (v1 : V) (ink1 : (List Ink)), vs = [v1] ∧ Sub G (O) H ∧ R.rel (rT K (rEn e_Ink)) G v1 ink1 ∧ ∃ res, m_step_of ink1 = some res ∧
  ∀ (G' H' : Hp), Ext G G' → Sub G' (O) H' → Q (V.int res) H'
def sp_blanks (K : PySem.W.Frag) (w : World) : Sp := fun vs H Q _ => ∃ (G : Hp) (O : Own) (v1 : V) (left1 : (List Ink)) (v2 : V) (right1 : (List Ink)) (row1 : Int) (gap1 : Int), vs = [v1, v2, (V.int row1), (V.int gap1)] ∧ Sub G (O) H ∧ R.rel (rT K (rEn e_Ink)) G v1 left1 ∧ R.rel (rT K (rEn e_Ink)) G v2 right1 ∧ ∃ res, m_blanks left1 right1 row1 gap1 = some res ∧
  ∀ (v : V) (G' H' : Hp), Ext G G' → Sub G' (O) H' → R.rel (rO rInt) G' v res → Q v H'
def sp_bad_count (K : PySem.W.Frag) (w : World) : Sp := fun vs H Q _ => ∃ (G : Hp) (O : Own) (v1 : V) (outlines1 : (List (List (List (Int × Int))))) (apart1 : Int), vs = [v1, (V.int apart1)] ∧ Sub G (O) H ∧ R.rel (rM (rM (rM (rP2 K rInt rInt)))) G v1 outlines1 ∧ ∃ res, m_bad_count outlines1 apart1 = some res ∧
  ∀ (v : V) (G' H' : Hp), Ext G G' → Sub G' (O) H' → R.rel (rO (rT K rInt)) G' v res → Q v H'
def sp_row_that_bars (K : PySem.W.Frag) (w : World) : Sp := fun vs H Q _ => ∃ (G : Hp) (O : Own) (v1 : V) (left1 : (List Ink)) (v2 : V) (right1 : (List Ink)) (gap1 : Int) (apart1 : Int), vs = [v1, v2, (V.int gap1), (V.int apart1)] ∧ Sub G (O) H ∧ R.rel (rT K (rEn e_Ink)) G v1 left1 ∧ R.rel (rT K (rEn e_Ink)) G v2 right1 ∧ ∃ res, m_row_that_bars left1 right1 gap1 apart1 = some res ∧
  ∀ (v : V) (G' H' : Hp), Ext G G' → Sub G' (O) H' → R.rel (rO rInt) G' v res → Q v H'
def sp_Face_gap_and_bar (K : PySem.W.Frag) (w : World) : Sp := fun vs H Q _ => ∃ (G : Hp) (O : Own) (v1 : V) (self1 : Int) (v2 : V) (left1 : (List Ink)) (v3 : V) (right1 : (List Ink)), vs = [v1, v2, v3] ∧ Sub G (O) H ∧ R.rel (rIP (He.ga K "Face") "apart" rInt) G v1 self1 ∧ R.rel (rT K (rEn e_Ink)) G v2 left1 ∧ R.rel (rT K (rEn e_Ink)) G v3 right1 ∧ ∃ res, m_Face_gap_and_bar self1 left1 right1 = some res ∧
  ∀ (v : V) (G' H' : Hp), Ext G G' → Sub G' (O) H' → R.rel (rP2 K rInt (rO rInt)) G' v res → Q v H'
def sp_Face___init__ (K : PySem.W.Frag) (w : World) : Sp := fun vs H Q _ => ∃ (G : Hp) (O : Own) (p1 : Addr) (d1 : Addr) (v1 : V) (outlines1 : (List (List (List (Int × Int))))) (apart1 : Int), vs = [V.ref p1, v1, (V.int apart1)] ∧ Sub G ((p1, HO.ins (He.ga K "Face") d1 []) :: O) H ∧ R.rel (rM (rM (rM (rP2 K rInt rInt)))) G v1 outlines1 ∧ ∃ res, m_Face___init__ outlines1 apart1 = some res ∧
  ∀ (G' H' : Hp), Ext G G' → Sub G' (O) H' → R.rel (rI_Face K) G' (V.ref p1) res → Q V.non H'
def sp_law_bag (K : PySem.W.Frag) (w : World) : Sp := fun vs H Q _ => ∃ (G : Hp) (O : Own) (v1 : V) (script1 : (List Int)) (at1 : Int), vs = [v1, (V.int at1)] ∧ Sub G (O) H ∧ R.rel (rL K rInt) G v1 script1 ∧ ∃ res, m_law_bag script1 at1 = some res ∧
  ∀ (p : Addr) (w : List V) (G' H' : Hp), Ext G G' → Sub G' ((p, HO.lst w) :: O) H' → Al rInt G' w res → Q (V.ref p) H'
def sp_law_draw (K : PySem.W.Frag) (w : World) : Sp := fun vs H Q _ => ∃ (G : Hp) (O : Own) (a1 : Addr) (w1 : List V) (bag_here1 : List Int) (many1 : Int), vs = [V.ref a1, (V.int many1)] ∧ Sub G ((a1, HO.lst w1) :: O) H ∧ Al rInt G w1 bag_here1 ∧ ∃ res, m_law_draw bag_here1 many1 = some res ∧
  ∀ (G' H' : Hp) (w'0 : List V), Ext G G' → Sub G' ((a1, HO.lst w'0) :: O) H' → Al rInt G' w'0 res.2 → Q (V.int res.1) H'
def sp_law_one (K : PySem.W.Frag) (w : World) : Sp := fun vs H Q _ => ∃ (G : Hp) (O : Own) (a1 : Addr) (w1 : List V) (bag_here1 : List Int) (v1 : V) (things1 : (List Int)), vs = [V.ref a1, v1] ∧ Sub G ((a1, HO.lst w1) :: O) H ∧ Al rInt G w1 bag_here1 ∧ R.rel (rM rInt) G v1 things1 ∧ ∃ res, m_law_one bag_here1 things1 = some res ∧
  ∀ (G' H' : Hp) (w'0 : List V), Ext G G' → Sub G' ((a1, HO.lst w'0) :: O) H' → Al rInt G' w'0 res.2 → Q (V.int res.1) H'
def sp_law_box (K : PySem.W.Frag) (w : World) : Sp := fun vs H Q _ => ∃ (G : Hp) (O : Own) (a1 : Addr) (w1 : List V) (bag_here1 : List Int) (wide1 : Int), vs = [V.ref a1, (V.int wide1)] ∧ Sub G ((a1, HO.lst w1) :: O) H ∧ Al rInt G w1 bag_here1 ∧ ∃ res, m_law_box bag_here1 wide1 = some res ∧
  ∀ (v : V) (G' H' : Hp) (w'0 : List V), Ext G G' → Sub G' ((a1, HO.lst w'0) :: O) H' → R.rel (rM (rP2 K rInt rInt)) G' v res.1 → Al rInt G' w'0 res.2 → Q v H'
def sp_law_outlines (K : PySem.W.Frag) (w : World) : Sp := fun vs H Q _ => ∃ (G : Hp) (O : Own) (a1 : Addr) (w1 : List V) (bag_here1 : List Int) (many1 : Int) (wide1 : Int), vs = [V.ref a1, (V.int many1), (V.int wide1)] ∧ Sub G ((a1, HO.lst w1) :: O) H ∧ Al rInt G w1 bag_here1 ∧ ∃ res, m_law_outlines bag_here1 many1 wide1 = some res ∧
  ∀ (v : V) (G' H' : Hp) (w'0 : List V), Ext G G' → Sub G' ((a1, HO.lst w'0) :: O) H' → R.rel (rM (rM (rM (rP2 K rInt rInt)))) G' v res.1 → Al rInt G' w'0 res.2 → Q v H'
def sp_law_word_of (K : PySem.W.Frag) (w : World) : Sp := fun vs H Q _ => ∃ (G : Hp) (O : Own) (number1 : Int) (many1 : Int) (length1 : Int), vs = [(V.int number1), (V.int many1), (V.int length1)] ∧ Sub G (O) H ∧ ∃ res, m_law_word_of number1 many1 length1 = some res ∧
  ∀ (G' H' : Hp), Ext G G' → Sub G' (O) H' → Q (V.str (e_T res)) H'
def sp_law_all (K : PySem.W.Frag) (w : World) : Sp := fun vs H Q _ => ∃ (G : Hp) (O : Own) (many1 : Int) (least1 : Int) (most1 : Int), vs = [(V.int many1), (V.int least1), (V.int most1)] ∧ Sub G (O) H ∧ ∃ res, m_law_all many1 least1 most1 = some res ∧
  ∀ (v : V) (G' H' : Hp), Ext G G' → Sub G' (O) H' → R.rel (rM rTx) G' v res → Q v H'
def sp_law_begin (K : PySem.W.Frag) (w : World) : Sp := fun vs H Q _ => ∃ (G : Hp) (O : Own) (v1 : V) (face1 : Face) (most1 : Int) (least1 : Int) (stop1 : Int), vs = [v1, (V.int most1), (V.int least1), (V.int stop1)] ∧ Sub G (O) H ∧ R.rel (rI_Face K) G v1 face1 ∧ ∃ res, m_law_begin face1 most1 least1 stop1 = some res ∧
  ∀ (v : V) (G' H' : Hp), Ext G G' → Sub G' (O) H' → R.rel (rM rTx) G' v res → Q v H'
def sp_law_stands (K : PySem.W.Frag) (w : World) : Sp := fun vs H Q _ => ∃ (G : Hp) (O : Own) (v1 : V) (one_here1 : Face) (v2 : V) (two1 : Face) (many1 : Int) (other1 : Int) (most1 : Int) (least1 : Int), vs = [v1, v2, (V.int many1), (V.int other1), (V.int most1), (V.int least1)] ∧ Sub G (O) H ∧ R.rel (rI_Face K) G v1 one_here1 ∧ R.rel (rI_Face K) G v2 two1 ∧ ∃ res, m_law_stands one_here1 two1 many1 other1 most1 least1 = some res ∧
  ∀ (G' H' : Hp), Ext G G' → Sub G' (O) H' → Q (V.bl res) H'
def sp_law (K : PySem.W.Frag) (w : World) : Sp := fun vs H Q _ => ∃ (G : Hp) (O : Own) (v1 : V) (script1 : (List Int)), vs = [v1] ∧ Sub G (O) H ∧ R.rel (rL K rInt) G v1 script1 ∧ ∃ res, m_law script1 = some res ∧
  ∀ (G' H' : Hp), Ext G G' → Sub G' (O) H' → Q (V.bl res) H'
end Mr

set_option Elab.async false
set_option linter.all false
set_option maxRecDepth 100000
set_option maxHeartbeats 4000000
set_option synthInstance.maxSize 4000
set_option synthInstance.maxHeartbeats 400000
namespace Mr
open PySem PySem.Spec PyProof.Rows L2
theorem bds_words_up_to {K : PySem.W.Frag} {mg : Str → Option Value} (T : Tx K mg) : ∃ ds, Vals [.int 1] ds ∧ Binds K T.fd_words_up_to ["face", "most", "least"] ds :=
  T.F_words_up_to.binds0 2 (by simp) rfl fun D doc pm an cdv ct us ks h1 h2 => match us, ks, h1, h2 with
    | [_, _], [_], _, _ => ⟨_, _, _, _, _, _, rfl, rfl, rfl⟩
theorem kb_words_up_to_least_ {K : PySem.W.Frag} {mg : Str → Option Value} (T : Tx K mg) : KBn K T.fd_words_up_to ["face", "most", "least"] 2 ["least"] (fun us ws => us ++ ws) (fun vs zs => vs ++ zs) :=
  kbn_full T.F_words_up_to 2 _ fun _ _ _ _ _ _ us ws h1 h2 => match us, ws, h1, h2 with | [_, _], [_], _, _ => rfl
end Mr

set_option Elab.async false
set_option linter.all false
set_option maxRecDepth 100000
set_option maxHeartbeats 4000000
set_option synthInstance.maxSize 4000
set_option synthInstance.maxHeartbeats 400000
namespace Mr
open PySem PySem.Spec PyProof.Rows L2
theorem bdf_Face___init___1 {K : PySem.W.Frag} {mg : Str → Option Value} (T : Tx K mg) : ∃ ds, Vals (([.int 1] : List V).drop 0) ds ∧ Binds K T.fd_Face___init__ ["self", "outlines", "apart"] ds :=
  T.F_Face___init__.binds1 2 0 (by simp) rfl fun D kV doc pm an cdv ct us its h1 h2 => match us, its, h1, h2 with
    | [_, _], [_], _, _ => ⟨_, rfl, rfl⟩
theorem bdf_Face___init___0 {K : PySem.W.Frag} {mg : Str → Option Value} (T : Tx K mg) : ∃ ds, Vals (([.int 1] : List V).drop 1) ds ∧ Binds K T.fd_Face___init__ ["self", "outlines", "apart"] ds :=
  T.F_Face___init__.binds1 3 1 (by simp) rfl fun D kV doc pm an cdv ct us its h1 h2 => match us, its, h1, h2 with
    | [_, _, _], [_], _, _ => ⟨_, rfl, rfl⟩
end Mr

set_option Elab.async false
set_option linter.all false
set_option maxRecDepth 100000
set_option maxHeartbeats 4000000
set_option synthInstance.maxSize 4000
set_option synthInstance.maxHeartbeats 400000
namespace Mr
open PySem PySem.Spec PyProof.Rows L2 GFr
section
variable {P : Program} {w : World} {K : PySem.W.Frag} {mg : Str → Option Value} {base : Heap}
theorem sc_Face_letters : FnScope ["self"] ["self"] (defScope s_Face_letters) := ⟨rfl, rfl, rfl, by decide +kernel, rfl, by decide +kernel, by decide +kernel⟩
theorem ok_Face_letters (T : Tx K mg) : FnOk P w K mg base CX0 1 (gAd K "Face" "letters") T.fd_Face_letters ["self"] (sp_Face_letters K w) := by
  obtain ⟨tk_LETTERS, c_LETTERS⟩ := T.c_LETTERS
  refine T.F_Face_letters.ok sc_Face_letters (fun vs H Q E h => ?_) (fun cdv A outer s H0 vs Q E hr h => ?_)
  · obtain ⟨G, O, v1, self1, rfl, _⟩ := h
    rfl
  · obtain ⟨G0, O, v1, self1, rfl, S0, h1, res, hm, q⟩ := h
    refine ⟨_, PSs.nox (pss_one (ps_ret (pe_slice sl_str (pe_glob (v := (V.str (e_T ([97, 98, 99, 100] : Wrd)))) (by rfl) c_LETTERS ⟨_, rfl⟩) po_none (po_some (pe_callB (r := rLenM K) call_lenM (by rfl) T.z_len boot_len (pa_cons (pe_fld (pv 0) rfl) pa_nil)))))), ?_⟩
    have E0 := Ext.refl G0
    have hm0 : (Option.bind (cutT ([97, 98, 99, 100] : Wrd) none (some (self1.inks.length : Int))) fun t1 =>
  some t1) = some res := hm
    refine gRet ?_
    refine gSl ?_
    refine gC ?_
    refine gNoPart ?_
    refine gPart ?_
    refine gCB ?_
    refine gCons' ?_
    refine gFld ?_
    refine gV rfl ?_
    obtain ⟨v5, v6, v7, hI2, h5, h6, h7⟩ := (id h1)
    obtain rfl := (show v5 = (V.int self1.apart) from h5)
    obtain ⟨a2, d2, ev2, ha2⟩ := ins_prop S0 hI2
    refine ⟨a2, _, d2, _, _, ev2, ha2, T.cl_Face, T.n_Face_inks, rfl, ?_⟩
    refine gNil' ?_
    refine q_lenT S0 h6 ?_
    refine ⟨_, rfl, ?_⟩
    obtain ⟨t1, hq1, hm1⟩ := bindS hm0
    refine q_slT hq1 ?_
    cases hm1
    exact q G0 H0 E0 S0
end
end Mr

set_option Elab.async false
set_option linter.all false
set_option maxRecDepth 100000
set_option maxHeartbeats 4000000
set_option synthInstance.maxSize 4000
set_option synthInstance.maxHeartbeats 400000
namespace Mr
open PySem PySem.Spec PyProof.Rows L2 GFr
section
variable {P : Program} {w : World} {K : PySem.W.Frag} {mg : Str → Option Value} {base : Heap}
theorem sc_words_up_to : GScope ["face", "most", "least", "words", "length", "word", "letter"] ["face", "most", "least"] (defScope s_words_up_to) := by constructor <;> first | rfl | decide +kernel
/-- what words_up_to hands out -/
def spG_words (K : PySem.W.Frag) : List V → Wo → List Wrd → Prop := fun vs W xs => ∃ (v1 : V) (face1 : Face) (most1 least1 : Int), vs = [v1, .int most1, .int least1] ∧ R.rel (rI_Face K) W.G v1 face1 ∧ m_words_up_to face1 most1 least1 = some xs
theorem wu_app : ∀ {l acc r : List Wrd}, folM m_words_up_to_b4 l acc = some r → r = acc ++ l ∧ (acc.length ≤ 100000 → r.length ≤ 100000)
  | [], acc, r, h => by cases h; exact ⟨by simp, id⟩
  | x :: l, acc, r, h => by
    obtain ⟨a, h1, h2⟩ := bindS (show (m_words_up_to_b4 acc x).bind (fun s' => folM m_words_up_to_b4 l s') = some r from h)
    obtain ⟨a', h3, h4⟩ := bindS (show (Option.bind (appM acc x) fun found9 => some found9) = some a from h1)
    cases h4
    obtain ⟨h5, h6⟩ := wu_app h2
    have e : acc.length < 100000 ∧ acc ++ [x] = a := by
      unfold appM at h3
      split at h3
      · rename_i c; cases h3; exact ⟨c, rfl⟩
      · cases h3
    obtain ⟨c, rfl⟩ := e
    refine ⟨by rw [h5]; simp, fun _ => h6 ?_⟩
    rw [List.length_append]; show acc.length + 1 ≤ 100000; omega
theorem wu_step {face1 : Face} {least1 x : Int} {w fo w' fo' : List Wrd} (h : m_words_up_to_b1 face1 least1 (w, fo) x = some (w', fo')) : (∃ t, fo' = fo ++ t) ∧ (fo.length ≤ 100000 → fo'.length ≤ 100000) := by
  obtain ⟨acc1, h1, h2⟩ := bindS (show (Option.bind (folM (m_words_up_to_c2 face1) w ([] : (List Wrd))) fun acc1 => Option.bind (if (decide (x ≥ least1)) then (Option.bind (folM (m_words_up_to_b4) acc1 fo) fun found7 => some found7) else (some fo)) fun found6 => some (acc1, found6)) = some (w', fo') from h)
  obtain ⟨f6, h3, h4⟩ := bindS h2
  cases h4
  split at h3
  · obtain ⟨f7, h5, h6⟩ := bindS h3
    cases h6
    obtain ⟨h7, h8⟩ := wu_app h5
    exact ⟨⟨_, h7⟩, h8⟩
  · cases h3
    exact ⟨⟨[], by simp⟩, id⟩
theorem wu_pre {face1 : Face} {least1 : Int} : ∀ {xs : List Int} {w fo w' fo' : List Wrd}, folM (m_words_up_to_b1 face1 least1) xs (w, fo) = some (w', fo') → (∃ t, fo' = fo ++ t) ∧ (fo.length ≤ 100000 → fo'.length ≤ 100000)
  | [], w, fo, w', fo', h => by cases h; exact ⟨⟨[], by simp⟩, id⟩
  | x :: xs, w, fo, w', fo', h => by
    obtain ⟨⟨w2, fo2⟩, h1, h2⟩ := bindS (show (m_words_up_to_b1 face1 least1 (w, fo) x).bind (fun s' => folM (m_words_up_to_b1 face1 least1) xs s') = some (w', fo') from h)
    obtain ⟨⟨t1, h3⟩, h4⟩ := wu_step h1
    obtain ⟨⟨t2, h5⟩, h6⟩ := wu_pre h2
    exact ⟨⟨t1 ++ t2, by rw [h5, h3]; simp⟩, fun q => h6 (h4 q)⟩
theorem wu_len {face1 : Face} {most1 least1 : Int} {xs : List Wrd} (h : m_words_up_to face1 most1 least1 = some xs) : xs.length ≤ sizeLine := by
  obtain ⟨xs1, h1, h2⟩ := bindS (show (Option.bind (rng2M (1 : Int) (most1 + (1 : Int))) fun xs1 => Option.bind (folM (m_words_up_to_b1 face1 least1) xs1 (([([] : Wrd)] : List Wrd), ([] : List Wrd))) fun (words1, found1) => some found1) = some xs from h)
  obtain ⟨⟨w, f⟩, h3, h4⟩ := bindS h2
  cases h4
  exact sz ((wu_pre h3).2 (Nat.zero_le _))
theorem wu_drop {σ : Type} {f : σ → Int → Option σ} : ∀ {xs : List Int} {j : Nat} {x : Int} {s r : σ}, xs[j]? = some x → folM f (xs.drop j) s = some r → ∃ s', f s x = some s' ∧ folM f (xs.drop (j + 1)) s' = some r
  | y :: xs, 0, x, s, r, hx, h => by
    cases hx
    exact bindS (show (f s y).bind (fun s' => folM f xs s') = some r from h)
  | y :: xs, j + 1, x, s, r, hx, h => wu_drop (xs := xs) (j := j) hx h
  | [], _, _, _, _, hx, _ => by simp at hx
abbrev gpW (P : Program) (w : World) (K : PySem.W.Frag) (mg : Str → Option Value) (base : Heap) (cd : Value) (A : Around) (outer : List Env) (L : Nat) (go : Addr × Obj) (c : Addr) (cv : V) : Gp := ⟨P, w, K, mg, base, ["face", "most", "least", "words", "length", "word", "letter"], "words_up_to", defScope s_words_up_to, He.fAd K ("words_up_to", none), cd, A, outer, L, go, c, 0, cv⟩
theorem gok_words_up_to (T : Tx K mg) {A : Around} {outer : List Env} {cd : Value} {L : Nat} {go : Addr × Obj} {c : Addr} {cv : V} (hr0 : Room 3 A) (ok : (gpW P w K mg base cd A outer L go c cv).Ok) : GtOk rTx ["face", "most", "least", "words", "length", "word", "letter"] (defBody s_words_up_to) (spG_words K) (gpW P w K mg base cd A outer L go c cv) := by
  have G_Face_letters := ok_Face_letters (P := P) (w := w) (base := base) T
  have hr : Room 2 (A.deeper (gpW P w K mg base cd A outer L go c cv).env) := hr0.deeper _
  rintro vs W xs hcv ⟨v1, face1, most1, least1, rfl, h1, hm⟩
  obtain rfl : v1 = cv := Option.some.inj hcv
  refine ⟨_, gts_cons (gt_ps fun s0 H0 => ps_set (i := 3) sc_words_up_to.nd rfl (.inl rfl) (pe_lst (pa_cons (pe_strT (l := ([] : Wrd)) (by decide +kernel)) pa_nil)))
      (gts_cons (gt_for (g := gpW P w K mg base cd A outer L go c v1) ok (fun s0 H0 => pi_range2 (X := (gpW P w K mg base cd A outer L go c v1).cx s0 H0) (by rfl) T.z_range (pa_cons pe_int (pa_cons (pe_op op_add (pv 1) pe_int) pa_nil))) (fun s0 H0 => pg_name (i := 4) sc_words_up_to.nd rfl (.inl rfl))
      (gts_cons (gt_ps fun s0 H0 => (ps_setLc2 (X := (gpW P w K mg base cd A outer L go c v1).cx s0 H0) (i := 3) (wi := iList K (tVar 3)) (own := [("word", 5), ("letter", 6)]) (vs1 := [6]) (g := gName 5) (g1 := gName 6) (by rfl) sc_words_up_to.nd rfl rfl (sw_true rfl rfl rfl (by decide +kernel)) (pi_list (pv 3)) (blkOk_by (own := [("word", 5), ("letter", 6)]) (N := ["face", "most", "least", "words", "length", "word", "letter"]) (sc := defScope s_words_up_to) (by decide +kernel)) (by decide) (fun _ _ _ _ _ => (pg_name (i := 5) sc_words_up_to.nd rfl (.inl rfl))) (fun _ _ _ _ _ => pts_nil) (fun _ _ _ _ _ => (pi_str (pe_prop (pv 0) T.cl_Face T.p_Face_letters G_Face_letters (hr.mono (by decide)) T.b_Face_letters .nil pass0 rfl))) (fun _ _ _ _ _ => (pg_name (i := 6) sc_words_up_to.nd rfl (.inl rfl))) (fun _ _ _ _ _ => pts_nil) (fun _ _ _ _ _ => (pe_op op_addT (pv 5) (pv 6)))))
      (gts_cons (gt_if (fun s0 H0 => pt_cmpR (X := (gpW P w K mg base cd A outer L go c v1).cx s0 H0) op_ge (pv 4) (pv 2) (nomark _)) (gts_cons (gt_from ok hr0.hd (fun s0 H0 => pv 3) rfl) gts_nil) gts_nil) gts_nil)))
      gts_nil), fun W0 e0 S0 => ?_⟩
  have h1' := R.up e0 h1
  obtain ⟨xs1, hq1, hm1⟩ := bindS (show (Option.bind (rng2M (1 : Int) (most1 + (1 : Int))) fun xs1 => Option.bind (folM (m_words_up_to_b1 face1 least1) xs1 (([([] : Wrd)] : List Wrd), ([] : List Wrd))) fun (words1, found1) => some found1) = some xs from hm)
  obtain ⟨⟨words1, found1⟩, hl1, hm2⟩ := bindS hm1
  dsimp only at hm2
  cases hm2
  refine gGc ?_
  refine gGp ?_
  refine gAsgN ?_
  refine gLst ?_
  refine gCons' ?_
  refine gC ?_
  refine gNil' ?_
  have h2 : Al rTx W0.G [(V.str (e_T ([] : Wrd)))] [([] : Wrd)] := ⟨rfl, True.intro⟩
  refine q_lst S0 h2 (by show 1 ≤ 100000; decide) (fun a1 H1 w1 S1 h3 => ?_)
  obtain ⟨G1, e1, S2, h4⟩ := frz_M S1 h3
  refine gAtN ?_
  refine gGnx ?_
  refine gGc ?_
  refine gGfor ?_
  refine gIR2 ?_
  refine gCons' ?_
  refine gC ?_
  refine gCons' ?_
  refine gOp ?_
  refine gV rfl ?_
  refine gC ?_
  refine ⟨_, _, rfl, rfl, ?_⟩
  refine gNil' ?_
  refine lpT_R2 hq1 (fun j i W σ H => ∃ (words2 found2 : List Wrd) (G : Hp) (v2 : V) (y1 y2 y3 : Option V), i = found2.length ∧ folM (m_words_up_to_b1 face1 least1) (xs1.drop j) (words2, found2) = some (words1, xs) ∧ Ext W.G G ∧ Sub G W.O H ∧ R.rel (rI_Face K) G v1 face1 ∧
    σ = [some v1, some (V.int most1), some (V.int least1), some v2, y1, y2, y3] ∧ R.rel (rM rTx) G v2 words2) ⟨[[]], [], G1, .ref a1, _, _, _, rfl, hl1, e1, S2, R.up e1 h1', rfl, h4⟩ ?_ ?_
  · rintro j x1 i W σ H hx ⟨words2, found2, G2, v2, y1, y2, y3, rfl, hf, e2, S4, h11, rfl, h9⟩
    obtain ⟨⟨words3, found3⟩, hb2, hf2⟩ := wu_drop hx hf
    have hm3 : (Option.bind (folM (m_words_up_to_c2 face1) words2 ([] : (List Wrd))) fun acc1 =>   Option.bind (if (decide (x1 ≥ least1)) then (Option.bind (folM (m_words_up_to_b4) acc1 found2) fun found7 =>   some found7)   else (some found2)) fun found6 =>   some (acc1, found6)) = some (words3, found3) := hb2
    refine gGc ?_
    refine gGp ?_
    refine gAsgN ?_
    refine gLc2 ?_
    refine gIL ?_
    refine gV rfl ?_
    obtain ⟨acc1, hq4, hm6⟩ := bindS hm3
    refine lc2_L (r := rTx) S4 (rM_L (K := K) h9) hq4 (fun (D : Addr) (s : (List Wrd)) (H : Hp) => ∃ (G : Hp) (wz : List V), Ext G2 G ∧ Sub G ((D, HO.lst wz) :: W.O) H ∧ Al rTx G wz s) ?_ ?_ ?_ ?_
    · intro D1 nD1
      exact ⟨G2, [], Ext.refl _, S4.newOwn nD1, True.intro⟩
    · intro D s H hI
      obtain ⟨G, k, ie, iS, _⟩ := hI
      exact ie.trans iS.ext
    · intro D2 i2 x2 acc2 s3 hb4 hr2 v8 H5 hI3 h19
      obtain ⟨G4, w5, e4, S6, h20⟩ := hI3
      have h21 := R.up e4 h11
      obtain rfl := (show v8 = (V.str (e_T x2)) from h19)
      refine ⟨rfl, ?_⟩
      have hm7 : (Option.bind (m_Face_letters face1) fun r2 =>   Option.bind (folM (m_words_up_to_c3 x2) (sgT r2) acc2) fun acc3 =>   some acc3) = some s3 := hb4
      refine gYes ?_
      refine iteT ?_
      refine gIS ?_
      refine gProp ?_
      refine gV rfl ?_
      obtain ⟨v9, v10, v11, hI4, h25, h26, h27⟩ := (id h21)
      obtain rfl := (show v9 = (V.int face1.apart) from h25)
      obtain ⟨a4, d2, ev2, ha2⟩ := ins_prop S6 hI4
      refine ⟨a4, d2, _, ev2, ha2, ?_⟩
      rw [← ev2]
      obtain ⟨r2, hq5, hm8⟩ := bindS hm7
      refine ⟨G4, ((D2, HO.lst w5) :: W.O), v1, face1, rfl, S6, h21, r2, hq5, fun G5 H6 e5 S7 => ?_⟩
      obtain ⟨acc3, hq6, hm9⟩ := bindS hm8
      cases hm9
      refine lci_S hq6 (fun (s : (List Wrd)) (H : Hp) => ∃ (G : Hp) (wz : List V), Ext G5 G ∧ Sub G ((D2, HO.lst wz) :: W.O) H ∧ Al rTx G wz s) ?_ ?_ ?_
      · exact ⟨G5, w5, Ext.refl _, S7, Al.up e5 h20⟩
      · intro i3 y7 acc4 s4 hb5 hr3 H7 hI5
        obtain ⟨G6, w6, e6, S8, h33⟩ := hI5
        refine ⟨rfl, ?_⟩
        have hm10 : (Option.bind (catT x2 y7) fun t2 =>   Option.bind (appM acc4 t2) fun acc5 =>   some acc5) = some s4 := hb5
        refine gYes ?_
        refine iteT ?_
        refine gOp ?_
        refine gV rfl ?_
        refine gV rfl ?_
        obtain ⟨t2, hq7, hm11⟩ := bindS hm10
        refine q_catT hq7 ?_
        obtain ⟨acc5, hq8, hm12⟩ := bindS hm11
        refine q_lcEl S8 h33 (show R.rel rTx G6 (V.str (e_T t2)) t2 from rfl) hq8 (fun H8 w7 S9 h38 => ?_)
        cases hm12
        exact ⟨_, ⟨G6, w7, e6, S9, h38⟩, hr3⟩
      · intro H9 hI6
        obtain ⟨G7, w8, e7, S10, h39⟩ := hI6
        exact ⟨_, ⟨G7, w8, ((e4.trans e5)).trans e7, S10, h39⟩, hr2⟩
    · intro D3 H10 hI7
      obtain ⟨G8, w9, e8, S11, h40⟩ := hI7
      obtain ⟨G9, e9, S12, h44⟩ := frz_M S11 h40
      obtain ⟨found6, hq10, hm16⟩ := bindS hm6
      cases hm16
      have E9 := e8.trans e9
      refine gAtN ?_
      refine gGnx ?_
      refine gGc ?_
      refine gGif ?_
      refine gTest ?_
      refine gOp ?_
      refine gV rfl ?_
      refine gV rfl ?_
      refine ⟨_, _, rfl, rfl, ?_⟩
      refine ⟨(decide (x1 ≥ least1)), rfl, ?_⟩
      refine ite2 (fun c1 => ?_) (fun c1 => ?_)
      · have hm17 := (if_pos c1).symm.trans hq10
        obtain ⟨found7, hl3, hm18⟩ := bindS hm17
        cases hm18
        obtain ⟨hfo, _⟩ := wu_app hl3
        subst hfo
        obtain ⟨⟨t, hpre⟩, _⟩ := wu_pre hf2
        refine gGc ?_
        refine ⟨rfl, gV rfl ?_⟩
        obtain ⟨p, vs', hvp, hG, hal⟩ := id h44
        cases hvp
        refine ⟨D3, vs', words3, G9, rfl, e2.trans E9, S12, hG, hal, fun k y hk => ?_, fun hn => ?_, fun W2 eW SW => ?_⟩
        · show xs[found2.length + k]? = some y
          rw [hpre, List.append_assoc, List.getElem?_append_right (Nat.le_add_right _ _), Nat.add_sub_cancel_left, List.getElem?_append_left (List.getElem?_eq_some_iff.mp hk).1]
          exact hk
        · subst hn
          exact ⟨[], found2 ++ [], G9, .ref D3, _, _, _, by simp, hf2, e2.trans E9, S12, R.up E9 h11, rfl, h44⟩
        · exact ⟨words3, found2 ++ words3, W2.G, .ref D3, _, _, _, by simp, hf2, .refl _, SW, R.up (E9.trans eW) h11, rfl, R.up eW h44⟩
      · have hm21 := (if_neg c1).symm.trans hq10
        cases hm21
        exact ⟨words3, found2, G9, .ref D3, _, _, _, rfl, hf2, e2.trans E9, S12, R.up E9 h11, rfl, h44⟩
  · rintro i W σ H ⟨words2, found2, G2, v2, y1, y2, y3, rfl, hf, e2, S4, h11, rfl, h9⟩
    rw [List.drop_length] at hf
    cases hf
    exact ⟨⟨rfl, rfl⟩, G2, e2, S4⟩
theorem hcl_words : ∀ n : Nat, cellsFrom n (defScope s_words_up_to).names [] = [(("face" : Str), n)] := fun n => by rfl
end
end Mr

set_option Elab.async false
set_option linter.all false
set_option maxRecDepth 100000
set_option maxHeartbeats 4000000
set_option synthInstance.maxSize 4000
set_option synthInstance.maxHeartbeats 400000
namespace Mr
open PySem PySem.Spec PyProof.Rows L2 GFr
section
variable {P : Program} {w : World} {K : PySem.W.Frag} {mg : Str → Option Value} {base : Heap}
theorem sc_is_number : FnScope ["thing"] ["thing"] (defScope s_is_number) := ⟨rfl, rfl, rfl, by decide +kernel, rfl, by decide +kernel, by decide +kernel⟩
theorem ok_is_number (T : Tx K mg) : FnOk P w K mg base CX0 1 (He.fAd K ("is_number", none)) T.fd_is_number ["thing"] (sp_is_number K w) := by
  obtain ⟨tk_GRID, c_GRID⟩ := T.c_GRID
  refine T.F_is_number.ok sc_is_number (fun vs H Q E h => ?_) (fun cdv A outer s H0 vs Q E hr h => ?_)
  · obtain ⟨G, O, thing1, rfl, _⟩ := h
    rfl
  · obtain ⟨G0, O, thing1, rfl, S0, res, hm, q⟩ := h
    refine ⟨_, PSs.nox (pss_one (ps_ret (pe_cut (pe_and (pe_callB (r := rIsi K) call_isi (by rfl) T.z_isinstance boot_isinstance (pa_cons (pv 0) (pa_cons (pe_bltn (v := .ty "int") (by rfl) T.z_int boot_int rfl) pa_nil))) (pe_and (pe_not (pe_callB (r := rIsi K) call_isi (by rfl) T.z_isinstance boot_isinstance (pa_cons (pv 0) (pa_cons (pe_bltn (v := .ty "bool") (by rfl) T.z_bool boot_bool rfl) pa_nil)))) (pe_one (pe_cut (pe_chain op_le op_le pe_int (pv 0) (pe_glob (v := (V.int (4 : Int))) (by rfl) c_GRID ⟨_, rfl⟩))))))))), ?_⟩
    have E0 := Ext.refl G0
    have hm0 : (some (true && ((!false) && ((decide ((0 : Int) ≤ thing1)) && (decide (thing1 ≤ (4 : Int))))))) = some res := hm
    refine gRet ?_
    refine gCE (fun (b : V) (H : Hp) => ∃ (G : Hp), Ext G0 G ∧ Sub G (O) H ∧ b = V.bl (true && ((!false) && ((decide ((0 : Int) ≤ thing1)) && (decide (thing1 ≤ (4 : Int))))))) ?_ ?_
    · skip
      refine gAndV ?_
      refine gCB ?_
      refine gCons' ?_
      refine gV rfl ?_
      refine gCons' ?_
      refine gC ?_
      refine gNil' ?_
      refine q_isi (ty_I _) (by decide +kernel : kitB "int" "int" = some true) ?_
      refine ⟨true, rfl, ?_⟩
      refine ite2 (fun c2 => ?_) (fun c2 => ?_)
      · skip
        refine gAndV ?_
        refine gNotV ?_
        refine gCB ?_
        refine gCons' ?_
        refine gV rfl ?_
        refine gCons' ?_
        refine gC ?_
        refine gNil' ?_
        refine q_isi (ty_I _) (by decide +kernel : kitB "int" "bool" = some false) ?_
        refine ⟨_, rfl, ?_⟩
        refine ⟨(!false), rfl, ?_⟩
        refine ite2 (fun c3 => ?_) (fun c3 => ?_)
        · skip
          refine gCE (fun (b : V) (H : Hp) => H = H0 ∧ b = V.bl ((decide ((0 : Int) ≤ thing1)) && (decide (thing1 ≤ (4 : Int))))) ?_ ?_
          · skip
            refine gChain ?_
            refine gC ?_
            refine gV rfl ?_
            refine ⟨_, _, rfl, rfl, ⟨(decide ((0 : Int) ≤ thing1)), rfl, ?_⟩⟩
            refine ite2 (fun c4 => ?_) (fun c4 => ?_)
            · skip
              refine gC ?_
              exact ⟨_, _, rfl, rfl, rfl, by rw [c4, Bool.true_and]⟩
            · exact ⟨rfl, by rw [ne_false c4, Bool.false_and]⟩
          · rintro b2 H2 ⟨e2, rfl⟩
            rw [e2]
            exact ⟨G0, (Ext.refl _), S0, congrArg V.bl (by rw [c2, Bool.true_and, c3, Bool.true_and])⟩
        · skip
          exact ⟨G0, (Ext.refl _), S0, congrArg V.bl (by rw [c2, Bool.true_and, ne_false c3, Bool.false_and])⟩
      · skip
        exact ⟨G0, (Ext.refl _), S0, congrArg V.bl (by rw [ne_false c2, Bool.false_and])⟩
    · intro b3 H3 hJ
      obtain ⟨G1, e3, S1, rfl⟩ := hJ
      have E1 := E0.trans e3
      cases hm0
      exact q G1 H3 E1 S1
end
end Mr

set_option Elab.async false
set_option linter.all false
set_option maxRecDepth 100000
set_option maxHeartbeats 4000000
set_option synthInstance.maxSize 4000
set_option synthInstance.maxHeartbeats 400000
namespace Mr
open PySem PySem.Spec PyProof.Rows L2 GFr
section
variable {P : Program} {w : World} {K : PySem.W.Frag} {mg : Str → Option Value} {base : Heap}
theorem sc_is_corner : FnScope ["thing"] ["thing"] (defScope s_is_corner) := ⟨rfl, rfl, rfl, by decide +kernel, rfl, by decide +kernel, by decide +kernel⟩
theorem ok_is_corner (T : Tx K mg) : FnOk P w K mg base CX0 2 (He.fAd K ("is_corner", none)) T.fd_is_corner ["thing"] (sp_is_corner K w) := by
  have G_is_number := ok_is_number (P := P) (w := w) (base := base) T
  refine T.F_is_corner.ok sc_is_corner (fun vs H Q E h => ?_) (fun cdv A outer s H0 vs Q E hr h => ?_)
  · obtain ⟨G, O, v1, thing1, rfl, _⟩ := h
    rfl
  · obtain ⟨G0, O, v1, thing1, rfl, S0, h1, res, hm, q⟩ := h
    refine ⟨_, PSs.nox (pss_cons (ps_if (pt_cut (PW.pt (pw_or (pt_not (pt_val (pe_callB (r := rIsiT K) call_isiT (by rfl) T.z_isinstance boot_isinstance (pa_cons (pv 0) (pa_cons (pe_tup (pa_cons (pe_bltn (v := .ty "list") (by rfl) T.z_list boot_list rfl) (pa_cons (pe_bltn (v := .ty "tuple") (by rfl) T.z_tuple boot_tuple rfl) pa_nil))) pa_nil))))) (pw_or1 (pt_cmpR op_neI (pe_callB (r := rLenM K) call_lenM (by rfl) T.z_len boot_len (pa_cons (pv 0) pa_nil)) pe_int (nomark _)))))) (pss_one (ps_ret pe_bl)) pss_nil)
      (pss_one (ps_ret (pe_cut (pe_and (pe_call G_is_number (hr.mono (by decide)) (by rfl) T.g_is_number T.F_is_number.kp T.b_is_number .nil pass0 (pa_cons (pe_ix ix_tup (pv 0) pe_int (fun _ _ => rfl)) pa_nil)) (pe_one (pe_call G_is_number (hr.mono (by decide)) (by rfl) T.g_is_number T.F_is_number.kp T.b_is_number .nil pass0 (pa_cons (pe_ix ix_tup (pv 0) pe_int (fun _ _ => rfl)) pa_nil)))))))), ?_⟩
    have E0 := Ext.refl G0
    have hm0 : (Option.bind (if (!true) then some true else (some (!decide ((2 : Int) = (2 : Int))))) fun x1 =>
  if x1 then (some false)
  else (Option.bind (Option.bind (m_is_number thing1.1) fun r2 =>
  if r2 then (Option.bind (m_is_number thing1.2) fun r4 =>
  some r4) else some false) fun x2 =>
  some x2)) = some res := hm
    refine gS_IfS ?_
    obtain ⟨x1, hq1, hm1⟩ := bindS hm0
    refine gCT (fun (b : Bool) (H : Hp) => ∃ (G : Hp), Ext G0 G ∧ Sub G (O) H ∧ b = x1) ?_ ?_
    · skip
      refine gOr ?_
      refine gNot ?_
      refine gB ?_
      refine gCB ?_
      refine gCons' ?_
      refine gV rfl ?_
      refine gCons' ?_
      refine gTup' ?_
      refine gCons' ?_
      refine gC ?_
      refine gCons' ?_
      refine gC ?_
      refine gNil' ?_
      refine ⟨sz (by show 2 ≤ 100000; decide), fun p4 np4 => ?_⟩
      have S4 : Sub G0 (O) (upd H0 p4 (HO.tup (List.map V.ty (["list", "tuple"] : List String)))) := S0.junk np4
      refine gNil' ?_
      refine q_isiT (t := "tuple") (cs := (["list", "tuple"] : List String)) (ty_P2 (R.up S4.ext h1)) (by decide +kernel : kitL "tuple" (["list", "tuple"] : List String) = some true) ?_
      refine ⟨true, rfl, ?_⟩
      refine ite2 (fun c1 => ?_) (fun c1 => ?_)
      · skip
        have hm2 := (if_pos c1).symm.trans hq1
        cases hm2
        exact ⟨G0, (Ext.refl _), S4, rfl⟩
      · skip
        have hm3 := (if_neg c1).symm.trans hq1
        refine gTest ?_
        refine gOp ?_
        refine gCB ?_
        refine gCons' ?_
        refine gV rfl ?_
        refine gNil' ?_
        refine q_len2 S4 h1 ?_
        refine gC ?_
        refine ⟨_, _, rfl, rfl, ?_⟩
        refine ⟨(!decide ((2 : Int) = (2 : Int))), rfl, ?_⟩
        cases hm3
        exact ⟨G0, (Ext.refl _), S4, rfl⟩
    · intro b1 H1 hJ
      obtain ⟨G1, e1, S5, rfl⟩ := hJ
      have h2 := R.up e1 h1
      have E1 := E0.trans e1
      refine ite2 (fun c2 => ?_) (fun c2 => ?_)
      · skip
        have hm4 := (if_pos c2).symm.trans hm1
        refine gRet ?_
        refine gC ?_
        cases hm4
        exact q G1 H1 E1 S5
      · skip
        have hm5 := (if_neg c2).symm.trans hm1
        refine gNext ?_
        refine gE ?_
        refine gRet ?_
        obtain ⟨x2, hq6, hm10⟩ := bindS hm5
        refine gCE (fun (b : V) (H : Hp) => ∃ (G : Hp), Ext G1 G ∧ Sub G (O) H ∧ b = V.bl x2) ?_ ?_
        · skip
          refine gAndV ?_
          refine gCall ?_
          refine gCons' ?_
          refine gOp ?_
          refine gV rfl ?_
          refine gC ?_
          refine q_p2_0 S5 h2 (fun v6 h11 => ?_)
          obtain rfl := (show v6 = (V.int thing1.1) from h11)
          refine gNil' ?_
          obtain ⟨r5, hq7, hm11⟩ := bindS hq6
          refine ⟨G1, (O), thing1.1, rfl, S5, r5, hq7, fun G6 H6 e6 S10 => ?_⟩
          have h12 := R.up e6 h2
          have E6 := E1.trans e6
          refine ⟨r5, rfl, ?_⟩
          refine ite2 (fun c3 => ?_) (fun c3 => ?_)
          · skip
            have hm12 := (if_pos c3).symm.trans hm11
            refine gCall ?_
            refine gCons' ?_
            refine gOp ?_
            refine gV rfl ?_
            refine gC ?_
            refine q_p2_1 S10 h12 (fun v7 h13 => ?_)
            obtain rfl := (show v7 = (V.int thing1.2) from h13)
            refine gNil' ?_
            obtain ⟨r6, hq8, hm13⟩ := bindS hm12
            refine ⟨G6, (O), thing1.2, rfl, S10, r6, hq8, fun G7 H7 e7 S11 => ?_⟩
            have h14 := R.up e7 h12
            have E7 := E6.trans e7
            cases hm13
            exact ⟨G7, (e6.trans e7), S11, rfl⟩
          · skip
            have hm14 := (if_neg c3).symm.trans hm11
            cases hm14
            exact ⟨G6, e6, S10, rfl⟩
        · intro b2 H8 hJ
          obtain ⟨G8, e8, S12, rfl⟩ := hJ
          have h15 := R.up e8 h2
          have E8 := E1.trans e8
          cases hm10
          exact q G8 H8 E8 S12
end
end Mr

set_option Elab.async false
set_option linter.all false
set_option maxRecDepth 100000
set_option maxHeartbeats 4000000
set_option synthInstance.maxSize 4000
set_option synthInstance.maxHeartbeats 400000
namespace Mr
open PySem PySem.Spec PyProof.Rows L2 GFr
section
variable {P : Program} {w : World} {K : PySem.W.Frag} {mg : Str → Option Value} {base : Heap}
theorem sc_is_ring : FnScope ["thing", "corner", "k"] ["thing"] (defScope s_is_ring) := ⟨rfl, rfl, rfl, by decide +kernel, rfl, by decide +kernel, by decide +kernel⟩
theorem ok_is_ring (T : Tx K mg) : FnOk P w K mg base CX0 3 (He.fAd K ("is_ring", none)) T.fd_is_ring ["thing"] (sp_is_ring K w) := by
  have G_is_corner := ok_is_corner (P := P) (w := w) (base := base) T
  obtain ⟨tk_LEAST_CORNERS, c_LEAST_CORNERS⟩ := T.c_LEAST_CORNERS
  obtain ⟨tk_MOST_CORNERS, c_MOST_CORNERS⟩ := T.c_MOST_CORNERS
  refine T.F_is_ring.ok sc_is_ring (fun vs H Q E h => ?_) (fun cdv A outer s H0 vs Q E hr h => ?_)
  · obtain ⟨G, O, v1, thing1, rfl, _⟩ := h
    rfl
  · obtain ⟨G0, O, v1, thing1, rfl, S0, h1, res, hm, q⟩ := h
    refine ⟨_, PSs.nox (pss_cons (ps_if (pt_cut (PW.pt (pw_or (pt_not (pt_val (pe_callB (r := rIsiT K) call_isiT (by rfl) T.z_isinstance boot_isinstance (pa_cons (pv 0) (pa_cons (pe_tup (pa_cons (pe_bltn (v := .ty "list") (by rfl) T.z_list boot_list rfl) (pa_cons (pe_bltn (v := .ty "tuple") (by rfl) T.z_tuple boot_tuple rfl) pa_nil))) pa_nil))))) (pw_or1 (pt_not (pt_cut (pt_chain op_le op_le (pe_glob (v := (V.int (3 : Int))) (by rfl) c_LEAST_CORNERS ⟨_, rfl⟩) (pe_callB (r := rLenM K) call_lenM (by rfl) T.z_len boot_len (pa_cons (pv 0) pa_nil)) (pe_glob (v := (V.int (8 : Int))) (by rfl) c_MOST_CORNERS ⟨_, rfl⟩)))))))) (pss_one (ps_ret pe_bl)) pss_nil)
      (pss_cons (ps_cut (ps_for PassesOwn.never rfl (pi_list (pv 0)) (pg_name (i := 1) sc_is_ring.nd rfl (.inl rfl))
      (pss_one (ps_if (pt_not (pt_val (pe_call G_is_corner (hr.mono (by decide)) (by rfl) T.g_is_corner T.F_is_corner.kp T.b_is_corner .nil pass0 (pa_cons (pv 1) pa_nil)))) (pss_one (ps_ret pe_bl)) pss_nil))))
      (pss_cons (ps_cut (ps_for PassesOwn.never rfl (pi_range1 (by rfl) T.z_range (pa_cons (pe_callB (r := rLenM K) call_lenM (by rfl) T.z_len boot_len (pa_cons (pv 0) pa_nil)) pa_nil)) (pg_name (i := 2) sc_is_ring.nd rfl (.inl rfl))
      (pss_one (ps_if (pt_cmpR (op_eqD hr.units) (pe_callTy (r := rTupOf K) call_tupOf (by rfl) T.z_tuple boot_tuple (pa_cons (pe_ix ix_list (pv 0) (pv 2) (fun _ _ => rfl)) pa_nil)) (pe_callTy (r := rTupOf K) call_tupOf (by rfl) T.z_tuple boot_tuple (pa_cons (pe_ix ix_list (pv 0) (pe_op op_sub (pv 2) pe_int) (fun _ _ => rfl)) pa_nil)) (nomark _)) (pss_one (ps_ret pe_bl)) pss_nil))))
      (pss_one (ps_ret pe_bl))))), ?_⟩
    have E0 := Ext.refl G0
    have hm0 : (Option.bind (if (!true) then some true else (some (!((decide ((3 : Int) ≤ (thing1.length : Int))) && (decide ((thing1.length : Int) ≤ (8 : Int))))))) fun x1 =>
  if x1 then (some false)
  else (Option.bind (forL (m_is_ring_b1) thing1 ()) fun res => match res with
  | Fl.rt r => some r
  | Fl.nx _ => Option.bind (rngM (thing1.length : Int)) fun xs1 =>
  Option.bind (forL (m_is_ring_b2 thing1) xs1 ()) fun res => match res with
  | Fl.rt r => some r
  | Fl.nx _ => some true)) = some res := hm
    refine gS_IfS ?_
    obtain ⟨x1, hq1, hm1⟩ := bindS hm0
    refine gCT (fun (b : Bool) (H : Hp) => ∃ (G : Hp), Ext G0 G ∧ Sub G (O) H ∧ b = x1) ?_ ?_
    · skip
      refine gOr ?_
      refine gNot ?_
      refine gB ?_
      refine gCB ?_
      refine gCons' ?_
      refine gV rfl ?_
      refine gCons' ?_
      refine gTup' ?_
      refine gCons' ?_
      refine gC ?_
      refine gCons' ?_
      refine gC ?_
      refine gNil' ?_
      refine ⟨sz (by show 2 ≤ 100000; decide), fun p4 np4 => ?_⟩
      have S4 : Sub G0 (O) (upd H0 p4 (HO.tup (List.map V.ty (["list", "tuple"] : List String)))) := S0.junk np4
      refine gNil' ?_
      refine q_isiT (t := "list") (cs := (["list", "tuple"] : List String)) (ty_L (rM_L (K := K) (R.up S4.ext h1))) (by decide +kernel : kitL "list" (["list", "tuple"] : List String) = some true) ?_
      refine ⟨true, rfl, ?_⟩
      refine ite2 (fun c2 => ?_) (fun c2 => ?_)
      · skip
        have hm2 := (if_pos c2).symm.trans hq1
        cases hm2
        exact ⟨G0, (Ext.refl _), S4, rfl⟩
      · skip
        have hm3 := (if_neg c2).symm.trans hq1
        refine gNot ?_
        refine gCT (fun (b : Bool) (H : Hp) => H = (upd H0 p4 (HO.tup (List.map V.ty (["list", "tuple"] : List String)))) ∧ b = ((decide ((3 : Int) ≤ (thing1.length : Int))) && (decide ((thing1.length : Int) ≤ (8 : Int))))) ?_ ?_
        · skip
          refine gTest ?_
          refine gChain ?_
          refine gC ?_
          refine gCB ?_
          refine gCons' ?_
          refine gV rfl ?_
          refine gNil' ?_
          refine q_lenL (y := V.non) S4 (rM_L (K := K) h1) ?_
          refine ⟨_, _, rfl, rfl, ⟨(decide ((3 : Int) ≤ (thing1.length : Int))), rfl, ?_⟩⟩
          refine ite2 (fun c3 => ?_) (fun c3 => ?_)
          · skip
            refine gC ?_
            exact ⟨_, _, rfl, rfl, (decide ((thing1.length : Int) ≤ (8 : Int))), rfl, rfl, by rw [c3, Bool.true_and]⟩
          · exact ⟨false, rfl, ⟨rfl, by rw [ne_false c3, Bool.false_and]⟩⟩
        · rintro b2 H2 ⟨e2, rfl⟩
          rw [e2]
          cases hm3
          exact ⟨G0, (Ext.refl _), S4, rfl⟩
    · intro b3 H3 hJ
      obtain ⟨G1, e3, S5, rfl⟩ := hJ
      have h2 := R.up e3 h1
      have E1 := E0.trans e3
      refine ite2 (fun c4 => ?_) (fun c4 => ?_)
      · skip
        have hm4 := (if_pos c4).symm.trans hm1
        refine gRet ?_
        refine gC ?_
        cases hm4
        exact q G1 H3 E1 S5
      · skip
        have hm5 := (if_neg c4).symm.trans hm1
        refine gNext ?_
        refine gE ?_
        obtain ⟨res1, hl1, hm6⟩ := bindS hm5
        refine gS_CS (fun (σ : L2.St) (H : Hp) => ∃ s : Unit, res1 = Fl.nx s ∧ ∃ (G : Hp) (y1 : Option V) (y2 : Option V), Ext G1 G ∧ Sub G (O) H ∧ σ = [some v1, y1, y2]) ?_ ?_
        · skip
          refine gFor ?_
          refine gIL ?_
          refine gV rfl ?_
          refine lp_L (r := (rP2 K rInt rInt)) S5 (rM_L (K := K) h2) hl1 (fun (s : Unit) (σ : L2.St) (H : Hp) => ∃ (G : Hp) (y1 : Option V) (y2 : Option V), Ext G1 G ∧ Sub G (O) H ∧ σ = [some v1, y1, y2]) ⟨G1, _, _, (Ext.refl _), S5, rfl⟩ ?_ ?_ ?_
          · intro s σ H hI
            obtain ⟨G, k1, k2, ie, iS, _⟩ := hI
            exact ie.trans iS.ext
          · intro i1 x2 s1 b4 hb1 hr1 v2 σ1 H4 hI1 h3
            obtain ⟨G2, y3, y4, e4, S6, rfl⟩ := hI1
            have h4 := R.up e4 h2
            have h5 := R.up e4 (rM_L (K := K) h2)
            have E2 := E1.trans e4
            have h6 := R.up e4 h3
            have hm7 : (Option.bind (m_is_corner x2) fun r2 =>   if (!r2) then (some (Bf.rt false))   else (some (Bf.go ()))) = some b4 := hb1
            refine gIfS ?_
            refine gNot ?_
            refine gB ?_
            refine gCall ?_
            refine gCons' ?_
            refine gV rfl ?_
            refine gNil' ?_
            obtain ⟨r2, hq3, hm9⟩ := bindS hm7
            refine ⟨G2, (O), v2, x2, rfl, S6, h6, r2, hq3, fun G4 H6 e6 S8 => ?_⟩
            have h10 := R.up e6 h4
            have h11 := R.up e6 h6
            have h12 := R.up e6 h5
            have E4 := E2.trans e6
            refine ⟨r2, rfl, ?_⟩
            refine ite2 (fun c5 => ?_) (fun c5 => ?_)
            · skip
              have hm10 := (if_pos c5).symm.trans hm9
              refine gRet ?_
              refine gC ?_
              cases hm10
              have hr2 := Option.some.inj (show some (Fl.rt _) = some res1 from hr1)
              subst hr2
              dsimp only at hm6
              cases hm6
              exact q G4 H6 E4 S8
            · skip
              have hm11 := (if_neg c5).symm.trans hm9
              refine gNext ?_
              cases hm11
              exact ⟨_, ⟨G4, _, _, (e4.trans e6), S8, rfl⟩, hr1⟩
          · intro s σ H h1 h2
            obtain ⟨G, k1, k2, ie, irest⟩ := h2
            exact ⟨s, h1, G, k1, k2, (ie), irest⟩
        · intro σ2 H7 hJ1
          obtain ⟨s2, hres1, hJ2⟩ := hJ1
          subst hres1
          dsimp only at hm6
          obtain ⟨G5, y5, y6, e7, S9, rfl⟩ := hJ2
          have h13 := R.up e7 h2
          have E5 := E1.trans e7
          obtain ⟨xs1, hq4, hm12⟩ := bindS hm6
          obtain ⟨res2, hl2, hm13⟩ := bindS hm12
          refine gS_CS (fun (σ : L2.St) (H : Hp) => ∃ s : Unit, res2 = Fl.nx s ∧ ∃ (G : Hp) (y7 : Option V) (y8 : Option V), Ext G5 G ∧ Sub G (O) H ∧ σ = [some v1, y7, y8]) ?_ ?_
          · skip
            refine gFor ?_
            refine gIR ?_
            refine gCons' ?_
            refine gCB ?_
            refine gCons' ?_
            refine gV rfl ?_
            refine gNil' ?_
            refine q_lenL (y := V.non) S9 (rM_L (K := K) h13) ?_
            refine gNil' ?_
            refine lp_R hq4 hl2 (fun (s : Unit) (σ : L2.St) (H : Hp) => ∃ (G : Hp) (y7 : Option V) (y8 : Option V), Ext G5 G ∧ Sub G (O) H ∧ σ = [some v1, y7, y8]) ⟨G5, _, _, (Ext.refl _), S9, rfl⟩ ?_ ?_
            · intro i2 x3 s3 b5 hb2 hr3 σ3 H8 hI2
              obtain ⟨G6, y9, y10, e8, S10, rfl⟩ := hI2
              have h15 := R.up e8 h13
              have E6 := E5.trans e8
              have hm14 : (Option.bind (getM thing1 x3) fun x4 =>   Option.bind (getM thing1 (x3 - (1 : Int))) fun x5 =>   if (decide (x4 = x5)) then (some (Bf.rt false))   else (some (Bf.go ()))) = some b5 := hb2
              refine gIfS ?_
              refine gTest ?_
              refine gOp ?_
              refine gCB ?_
              refine gCons' ?_
              refine gOp ?_
              refine gV rfl ?_
              refine gV rfl ?_
              obtain ⟨x4, hq5, hm15⟩ := bindS hm14
              refine q_ixL S10 (rM_L (K := K) h15) hq5 (fun v4 h16 => ?_)
              refine gNil' ?_
              refine q_tupP2 S10 h16 ?_
              refine gCB ?_
              refine gCons' ?_
              refine gOp ?_
              refine gV rfl ?_
              refine gOp ?_
              refine gV rfl ?_
              refine gC ?_
              refine ⟨_, _, rfl, rfl, ?_⟩
              obtain ⟨x5, hq6, hm16⟩ := bindS hm15
              refine q_ixL S10 (rM_L (K := K) h15) hq6 (fun v5 h17 => ?_)
              refine gNil' ?_
              refine q_tupP2 S10 h17 ?_
              refine q_eqD (dP2 (dInt (K := K)) (dInt (K := K))) (by show 3 ≤ 64; decide) (R.up S10.ext h16) (R.up S10.ext h17) ((okP2 okI okI) _) ((okP2 okI okI) _) ?_
              refine ⟨(decide (x4 = x5)), rfl, ?_⟩
              refine ite2 (fun c6 => ?_) (fun c6 => ?_)
              · skip
                have hm17 := (if_pos c6).symm.trans hm16
                refine gRet ?_
                refine gC ?_
                cases hm17
                have hr4 := Option.some.inj (show some (Fl.rt _) = some res2 from hr3)
                subst hr4
                dsimp only at hm13
                cases hm13
                exact q G6 H8 E6 S10
              · skip
                have hm18 := (if_neg c6).symm.trans hm16
                refine gNext ?_
                cases hm18
                exact ⟨_, ⟨G6, _, _, e8, S10, rfl⟩, hr3⟩
            · intro s σ H h1 h2
              obtain ⟨G, k3, k4, ie, irest⟩ := h2
              exact ⟨s, h1, G, k3, k4, (ie), irest⟩
          · intro σ4 H9 hJ3
            obtain ⟨s4, hres2, hJ4⟩ := hJ3
            subst hres2
            dsimp only at hm13
            obtain ⟨G7, y11, y12, e9, S11, rfl⟩ := hJ4
            have h18 := R.up e9 h13
            have E7 := E5.trans e9
            refine gRet ?_
            refine gC ?_
            cases hm13
            exact q G7 H9 E7 S11
end
end Mr

set_option Elab.async false
set_option linter.all false
set_option maxRecDepth 100000
set_option maxHeartbeats 4000000
set_option synthInstance.maxSize 4000
set_option synthInstance.maxHeartbeats 400000
namespace Mr
open PySem PySem.Spec PyProof.Rows L2 GFr
section
variable {P : Program} {w : World} {K : PySem.W.Frag} {mg : Str → Option Value} {base : Heap}
theorem sc_outline_of : FnScope ["letter", "thing", "number", "ring", "corner"] ["letter", "thing"] (defScope s_outline_of) := ⟨rfl, rfl, rfl, by decide +kernel, rfl, by decide +kernel, by decide +kernel⟩
theorem ok_outline_of (T : Tx K mg) : FnOk P w K mg base CX0 4 (He.fAd K ("outline_of", none)) T.fd_outline_of ["letter", "thing"] (sp_outline_of K w) := by
  have G_is_ring := ok_is_ring (P := P) (w := w) (base := base) T
  obtain ⟨tk_MOST_RINGS, c_MOST_RINGS⟩ := T.c_MOST_RINGS
  refine T.F_outline_of.ok sc_outline_of (fun vs H Q E h => ?_) (fun cdv A outer s H0 vs Q E hr h => ?_)
  · obtain ⟨G, O, letter1, v1, thing1, rfl, _⟩ := h
    rfl
  · obtain ⟨G0, O, letter1, v1, thing1, rfl, S0, h1, res, hm, q⟩ := h
    refine ⟨_, PSs.nox (pss_cons (ps_if (pt_cut (PW.pt (pw_or (pt_not (pt_val (pe_callB (r := rIsiT K) call_isiT (by rfl) T.z_isinstance boot_isinstance (pa_cons (pv 1) (pa_cons (pe_tup (pa_cons (pe_bltn (v := .ty "list") (by rfl) T.z_list boot_list rfl) (pa_cons (pe_bltn (v := .ty "tuple") (by rfl) T.z_tuple boot_tuple rfl) pa_nil))) pa_nil))))) (pw_or1 (pt_not (pt_cut (pt_chain op_le op_le pe_int (pe_callB (r := rLenM K) call_lenM (by rfl) T.z_len boot_len (pa_cons (pv 1) pa_nil)) (pe_glob (v := (V.int (3 : Int))) (by rfl) c_MOST_RINGS ⟨_, rfl⟩)))))))) (pss_one ps_never) pss_nil)
      (pss_cons (ps_cut (ps_for PassesOwn.never rfl (pi_enumQ (by rfl) T.z_enumerate (pa_cons (pv 1) pa_nil)) (pg_tup rfl (pgs_cons (pg_name (i := 2) sc_outline_of.nd rfl (.inl rfl)) (pgs_cons (pg_name (i := 3) sc_outline_of.nd rfl (.inl rfl)) pgs_nil)))
      (pss_one (ps_if (pt_not (pt_val (pe_call G_is_ring (hr.mono (by decide)) (by rfl) T.g_is_ring T.F_is_ring.kp T.b_is_ring .nil pass0 (pa_cons (pv 3) pa_nil)))) (pss_one ps_never) pss_nil))))
      (pss_one (ps_ret (pe_callTy (r := rTupOf K) call_tupOf (by rfl) T.z_tuple boot_tuple (pa_cons (pe_lc (own := [("ring", 3)]) (g := gName 3) (by rfl) sc_outline_of.nd (pi_list (pv 1)) (blkOk_by (own := [("ring", 3)]) (N := ["letter", "thing", "number", "ring", "corner"]) (sc := defScope s_outline_of) (by decide +kernel)) (fun _ _ _ _ _ => (pg_name (i := 3) sc_outline_of.nd rfl (.inl rfl))) (fun _ _ _ _ _ => pts_nil) (fun _ _ _ _ _ => (pe_callTy (r := rTupOf K) call_tupOf (by rfl) T.z_tuple boot_tuple (pa_cons (pe_lc (own := [("corner", 4)]) (g := gName 4) (by rfl) sc_outline_of.nd (pi_listK (K := K) rfl (pv 3)) (blkOk_by (own := [("corner", 4)]) (N := ["letter", "thing", "number", "ring", "corner"]) (sc := _) (by kernel_rfl)) (fun _ _ _ _ _ => (pg_name (i := 4) sc_outline_of.nd rfl (.inl rfl))) (fun _ _ _ _ _ => pts_nil) (fun _ _ _ _ _ => (pe_callTy (r := rTupOf K) call_tupOf (by rfl) T.z_tuple boot_tuple (pa_cons (pv 4) pa_nil)))) pa_nil)))) pa_nil)))))), ?_⟩
    have E0 := Ext.refl G0
    have hm0 : (Option.bind (if (!true) then some true else (some (!((decide ((1 : Int) ≤ (thing1.length : Int))) && (decide ((thing1.length : Int) ≤ (3 : Int))))))) fun x1 =>
  if x1 then (none)
  else (Option.bind (forL (m_outline_of_b1) (enumM thing1) ()) fun res => match res with
  | Fl.rt r => some r
  | Fl.nx _ => Option.bind (folM (m_outline_of_c2) thing1 ([] : (List (List (Int × Int))))) fun acc4 =>
  some acc4)) = some res := hm
    refine gS_IfS ?_
    obtain ⟨x1, hq1, hm1⟩ := bindS hm0
    refine gCT (fun (b : Bool) (H : Hp) => ∃ (G : Hp), Ext G0 G ∧ Sub G (O) H ∧ b = x1) ?_ ?_
    · skip
      refine gOr ?_
      refine gNot ?_
      refine gB ?_
      refine gCB ?_
      refine gCons' ?_
      refine gV rfl ?_
      refine gCons' ?_
      refine gTup' ?_
      refine gCons' ?_
      refine gC ?_
      refine gCons' ?_
      refine gC ?_
      refine gNil' ?_
      refine ⟨sz (by show 2 ≤ 100000; decide), fun p4 np4 => ?_⟩
      have S4 : Sub G0 (O) (upd H0 p4 (HO.tup (List.map V.ty (["list", "tuple"] : List String)))) := S0.junk np4
      refine gNil' ?_
      refine q_isiT (t := "list") (cs := (["list", "tuple"] : List String)) (ty_L (rM_L (K := K) (R.up S4.ext h1))) (by decide +kernel : kitL "list" (["list", "tuple"] : List String) = some true) ?_
      refine ⟨true, rfl, ?_⟩
      refine ite2 (fun c2 => ?_) (fun c2 => ?_)
      · skip
        have hm2 := (if_pos c2).symm.trans hq1
        cases hm2
        exact ⟨G0, (Ext.refl _), S4, rfl⟩
      · skip
        have hm3 := (if_neg c2).symm.trans hq1
        refine gNot ?_
        refine gCT (fun (b : Bool) (H : Hp) => H = (upd H0 p4 (HO.tup (List.map V.ty (["list", "tuple"] : List String)))) ∧ b = ((decide ((1 : Int) ≤ (thing1.length : Int))) && (decide ((thing1.length : Int) ≤ (3 : Int))))) ?_ ?_
        · skip
          refine gTest ?_
          refine gChain ?_
          refine gC ?_
          refine gCB ?_
          refine gCons' ?_
          refine gV rfl ?_
          refine gNil' ?_
          refine q_lenL (y := V.non) S4 (rM_L (K := K) h1) ?_
          refine ⟨_, _, rfl, rfl, ⟨(decide ((1 : Int) ≤ (thing1.length : Int))), rfl, ?_⟩⟩
          refine ite2 (fun c3 => ?_) (fun c3 => ?_)
          · skip
            refine gC ?_
            exact ⟨_, _, rfl, rfl, (decide ((thing1.length : Int) ≤ (3 : Int))), rfl, rfl, by rw [c3, Bool.true_and]⟩
          · exact ⟨false, rfl, ⟨rfl, by rw [ne_false c3, Bool.false_and]⟩⟩
        · rintro b2 H2 ⟨e2, rfl⟩
          rw [e2]
          cases hm3
          exact ⟨G0, (Ext.refl _), S4, rfl⟩
    · intro b3 H3 hJ
      obtain ⟨G1, e3, S5, rfl⟩ := hJ
      have h2 := R.up e3 h1
      have E1 := E0.trans e3
      refine ite2 (fun c4 => ?_) (fun c4 => ?_)
      · skip
        have hm4 := (if_pos c4).symm.trans hm1
        cases hm4
      · skip
        have hm5 := (if_neg c4).symm.trans hm1
        refine gNext ?_
        refine gE ?_
        obtain ⟨res1, hl1, hm6⟩ := bindS hm5
        refine gS_CS (fun (σ : L2.St) (H : Hp) => ∃ s : Unit, res1 = Fl.nx s ∧ ∃ (G : Hp) (y1 : Option V) (y2 : Option V) (y3 : Option V), Ext G1 G ∧ Sub G (O) H ∧ σ = [some (V.str (e_T letter1)), some v1, y1, y2, y3]) ?_ ?_
        · skip
          refine gFor ?_
          refine gIE ?_
          refine gCons' ?_
          refine gV rfl ?_
          refine gNil' ?_
          refine lp_EQ (r := (rM (rP2 K rInt rInt))) S5 (rM_Q (K := K) h2) hl1 (fun (s : Unit) (σ : L2.St) (H : Hp) => ∃ (G : Hp) (y1 : Option V) (y2 : Option V) (y3 : Option V), Ext G1 G ∧ Sub G (O) H ∧ σ = [some (V.str (e_T letter1)), some v1, y1, y2, y3]) ⟨G1, _, _, _, (Ext.refl _), S5, rfl⟩ ?_ ?_ ?_
          · intro s σ H hI
            obtain ⟨G, k1, k2, k3, ie, iS, _⟩ := hI
            exact ie.trans iS.ext
          · intro i1 x2 s1 b4 hb1 hr1 v2 σ1 H4 H5 hI1 hS1 h3
            obtain ⟨G2, y4, y5, y6, e4, S6, rfl⟩ := hI1
            have h4 := R.up e4 h2
            have h5 := R.up e4 h2
            have E2 := E1.trans e4
            have S7 := hS1 _ _ S6
            generalize ((i1 : Nat) : Int) = k4 at hb1 ⊢
            have h6 := R.up e4 h3
            have hm7 : (Option.bind (m_is_ring x2) fun r2 =>   if (!r2) then (none)   else (some (Bf.go ()))) = some b4 := hb1
            refine gIfS ?_
            refine gNot ?_
            refine gB ?_
            refine gCall ?_
            refine gCons' ?_
            refine gV rfl ?_
            refine gNil' ?_
            obtain ⟨r2, hq3, hm9⟩ := bindS hm7
            refine ⟨G2, (O), v2, x2, rfl, S7, h6, r2, hq3, fun G4 H7 e6 S9 => ?_⟩
            have h10 := R.up e6 h4
            have h11 := R.up e6 h6
            have h12 := R.up e6 h5
            have E4 := E2.trans e6
            refine ⟨r2, rfl, ?_⟩
            refine ite2 (fun c5 => ?_) (fun c5 => ?_)
            · skip
              have hm10 := (if_pos c5).symm.trans hm9
              cases hm10
            · skip
              have hm11 := (if_neg c5).symm.trans hm9
              refine gNext ?_
              cases hm11
              exact ⟨_, ⟨G4, _, _, _, (e4.trans e6), S9, rfl⟩, hr1⟩
          · intro s σ H h1 h2
            obtain ⟨G, k1, k2, k3, ie, irest⟩ := h2
            exact ⟨s, h1, G, k1, k2, k3, (ie), irest⟩
        · intro σ2 H8 hJ1
          obtain ⟨s2, hres1, hJ2⟩ := hJ1
          subst hres1
          dsimp only at hm6
          obtain ⟨G5, y7, y8, y9, e7, S10, rfl⟩ := hJ2
          have h13 := R.up e7 h2
          have E5 := E1.trans e7
          refine gRet ?_
          refine gCB ?_
          refine gCons' ?_
          refine gLc ?_
          refine gIL ?_
          refine gV rfl ?_
          obtain ⟨acc4, hq6, hm15⟩ := bindS hm6
          refine lc_L (r := (rM (rP2 K rInt rInt))) S10 (rM_L (K := K) h13) hq6 (fun (D : Addr) (s : (List (List (Int × Int)))) (H : Hp) => ∃ (G : Hp) (w5 : List V), Ext G5 G ∧ Sub G ((D, HO.lst w5) :: O) H ∧ Al (rT K (rP2 K rInt rInt)) G w5 s) ?_ ?_ ?_ ?_
          · intro D4 nD2
            exact ⟨G5, [], Ext.refl _, S10.newOwn nD2, True.intro⟩
          · intro D s H hI
            obtain ⟨G, k6, ie, iS, _⟩ := hI
            exact ie.trans iS.ext
          · intro D5 i3 x4 acc5 s6 hb3 hr3 v5 H13 hI4 h30
            obtain ⟨G9, w6, e11, S15, h31⟩ := hI4
            have h32 := R.up e11 h13
            have h33 := R.up e11 (rM_L (K := K) h13)
            have E9 := E5.trans e11
            have h34 := R.up e11 h30
            refine ⟨rfl, ?_⟩
            have hm16 : (Option.bind (folM (m_outline_of_c3) x4 ([] : (List (Int × Int)))) fun acc6 =>   Option.bind (appM acc5 acc6) fun acc9 =>   some acc9) = some s6 := hb3
            refine gYes ?_
            refine iteT ?_
            refine gCB ?_
            refine gCons' ?_
            refine gLc ?_
            refine gIL ?_
            refine gV rfl ?_
            obtain ⟨acc6, hq7, hm17⟩ := bindS hm16
            refine lc_L (r := (rP2 K rInt rInt)) S15 (rM_L (K := K) h34) hq7 (fun (D : Addr) (s : (List (Int × Int))) (H : Hp) => ∃ (G : Hp) (w7 : List V), Ext G9 G ∧ Sub G ((D, HO.lst w7) :: (D5, HO.lst w6) :: O) H ∧ Al (rP2 K rInt rInt) G w7 s) ?_ ?_ ?_ ?_
            · intro D6 nD3
              exact ⟨G9, [], Ext.refl _, S15.newOwn nD3, True.intro⟩
            · intro D s H hI
              obtain ⟨G, k7, ie, iS, _⟩ := hI
              exact ie.trans iS.ext
            · intro D7 i4 x5 acc7 s8 hb4 hr4 v6 H14 hI5 h35
              obtain ⟨G10, w8, e12, S16, h36⟩ := hI5
              have h37 := R.up e12 h32
              have h38 := R.up e12 h34
              have h39 := R.up e12 h33
              have h40 := Al.up e12 h31
              have h41 := R.up e12 (rM_L (K := K) h34)
              have E10 := E9.trans e12
              have h42 := R.up e12 h35
              refine ⟨rfl, ?_⟩
              have hm18 : (Option.bind (appM acc7 x5) fun acc8 =>   some acc8) = some s8 := hb4
              refine gYes ?_
              refine iteT ?_
              refine gCB ?_
              refine gCons' ?_
              refine gV rfl ?_
              refine gNil' ?_
              refine q_tupP2 S16 h42 ?_
              obtain ⟨acc8, hq8, hm19⟩ := bindS hm18
              refine q_lcEl S16 h36 (show R.rel (rP2 K rInt rInt) G10 v6 x5 from h42) hq8 (fun H15 w9 S17 h43 => ?_)
              cases hm19
              exact ⟨_, ⟨G10, w9, e12, S17, h43⟩, hr4⟩
            · intro D8 H16 hI6
              obtain ⟨G11, w10, e13, S18, h44⟩ := hI6
              have h45 := R.up e13 h32
              have h46 := R.up e13 h34
              have h47 := R.up e13 h33
              have h48 := Al.up e13 h31
              have E11 := E9.trans e13
              refine gNil' ?_
              refine q_tupO S18 h44 (fun v7 G12 H17 e14 S19 h49 => ?_)
              have h50 := R.up e14 h45
              have h51 := R.up e14 h46
              have h52 := R.up e14 h47
              have h53 := Al.up e14 h48
              have E12 := E11.trans e14
              obtain ⟨acc9, hq9, hm20⟩ := bindS hm17
              have S20 : Sub G12 ((D5, HO.lst w6) :: (D8, HO.lst w10) :: O) H17 := S19.front 1 rfl rfl
              refine q_lcEl S20 h53 (show R.rel (rT K (rP2 K rInt rInt)) G12 v7 acc6 from h49) hq9 (fun H18 w11 S21 h54 => ?_)
              have S22 : Sub G12 ((D8, HO.lst w10) :: (D5, HO.lst w11) :: O) H18 := S21.front 1 rfl rfl
              have S23 := S22.tail
              cases hm20
              exact ⟨_, ⟨G12, w11, ((e11.trans e13).trans e14), S23, h54⟩, hr3⟩
          · intro D9 H19 hI7
            obtain ⟨G13, w12, e15, S24, h55⟩ := hI7
            have h56 := R.up e15 h13
            have E13 := E5.trans e15
            refine gNil' ?_
            refine q_tupO S24 h55 (fun v8 G14 H20 e16 S25 h57 => ?_)
            have h58 := R.up e16 h56
            have E14 := E13.trans e16
            have S26 := S25.tail
            cases hm15
            exact q v8 G14 H20 E14 S26 h57
end
end Mr

set_option Elab.async false
set_option linter.all false
set_option maxRecDepth 100000
set_option maxHeartbeats 4000000
set_option synthInstance.maxSize 4000
set_option synthInstance.maxHeartbeats 400000
namespace Mr
open PySem PySem.Spec PyProof.Rows L2 GFr
section
variable {P : Program} {w : World} {K : PySem.W.Frag} {mg : Str → Option Value} {base : Heap}
theorem sc_count_of : FnScope ["start", "stop", "x", "y", "upper", "lower", "height", "doubled"] ["start", "stop", "x", "y"] (defScope s_count_of) := ⟨rfl, rfl, rfl, by decide +kernel, rfl, by decide +kernel, by decide +kernel⟩
theorem ok_count_of (T : Tx K mg) : FnOk P w K mg base CX0 1 (He.fAd K ("count_of", none)) T.fd_count_of ["start", "stop", "x", "y"] (sp_count_of K w) := by
  refine T.F_count_of.ok sc_count_of (fun vs H Q E h => ?_) (fun cdv A outer s H0 vs Q E hr h => ?_)
  · obtain ⟨G, O, v1, start1, v2, stop1, x1, y1, rfl, _⟩ := h
    rfl
  · obtain ⟨G0, O, v1, start1, v2, stop1, x1, y1, rfl, S0, h1, h2, res, hm, q⟩ := h
    refine ⟨_, PSs.nox (pss_cons (ps_asg (pe_cut (pe_ifExp (pt_cmpR op_le (pe_ix ix_tup (pv 0) pe_int (fun _ _ => rfl)) (pe_ix ix_tup (pv 1) pe_int (fun _ _ => rfl)) (nomark _)) (pe_tup (pa_cons (pv 0) (pa_cons (pv 1) pa_nil))) (pe_tup (pa_cons (pv 1) (pa_cons (pv 0) pa_nil))))) (pg_tup rfl (pgs_cons (pg_name (i := 4) sc_count_of.nd rfl (.inl rfl)) (pgs_cons (pg_name (i := 5) sc_count_of.nd rfl (.inl rfl)) pgs_nil))))
      (pss_cons (ps_if (pt_cut (PW.pt (pw_or (pt_cmpR op_gt (pe_ix ix_tup (pv 4) pe_int (fun _ _ => rfl)) (pv 3) (nomark _)) (pw_or1 (pt_cmpR op_lt (pe_ix ix_tup (pv 5) pe_int (fun _ _ => rfl)) (pe_op op_add (pv 3) pe_int) (nomark _)))))) (pss_one (ps_ret pe_int)) pss_nil)
      (pss_cons (ps_set (i := 6) sc_count_of.nd rfl (.inl rfl) (pe_op op_sub (pe_ix ix_tup (pv 5) pe_int (fun _ _ => rfl)) (pe_ix ix_tup (pv 4) pe_int (fun _ _ => rfl))))
      (pss_cons (ps_set (i := 7) sc_count_of.nd rfl (.inl rfl) (pe_op op_add (pe_op op_mul (pe_op op_mul pe_int (pe_ix ix_tup (pv 4) pe_int (fun _ _ => rfl))) (pv 6)) (pe_op op_mul (pe_op op_sub (pe_ix ix_tup (pv 5) pe_int (fun _ _ => rfl)) (pe_ix ix_tup (pv 4) pe_int (fun _ _ => rfl))) (pe_op op_sub (pe_op op_add (pe_op op_mul pe_int (pv 3)) pe_int) (pe_op op_mul pe_int (pe_ix ix_tup (pv 4) pe_int (fun _ _ => rfl)))))))
      (pss_cons (ps_if (pt_cmpR op_le (pv 7) (pe_op op_mul (pe_op op_add (pe_op op_mul pe_int (pv 2)) pe_int) (pv 6)) (nomark _)) (pss_one (ps_ret pe_int)) pss_nil)
      (pss_one (ps_ret (pe_cut (pe_ifExp (pt_cmpR op_gt (pe_ix ix_tup (pv 1) pe_int (fun _ _ => rfl)) (pe_ix ix_tup (pv 0) pe_int (fun _ _ => rfl)) (nomark _)) pe_int (pe_un un_neg pe_int)))))))))), ?_⟩
    have E0 := Ext.refl G0
    have hm0 : (Option.bind (if (decide (start1.2 ≤ stop1.2)) then (some (start1, stop1)) else (some (stop1, start1))) fun x2 =>
  if ((decide (x2.1.2 > y1)) || (decide (x2.2.2 < (y1 + (1 : Int))))) then (some (0 : Int))
  else (Option.bind (mulM ((2 : Int) * x2.1.1) (x2.2.2 - x2.1.2)) fun x3 =>
  Option.bind (mulM (x2.2.1 - x2.1.1) ((((2 : Int) * y1) + (1 : Int)) - ((2 : Int) * x2.1.2))) fun x4 =>
  Option.bind (mulM (((2 : Int) * x1) + (1 : Int)) (x2.2.2 - x2.1.2)) fun x5 =>
  if (decide ((x3 + x4) ≤ x5)) then (some (0 : Int))
  else (some (if (decide (stop1.2 > start1.2)) then (1 : Int) else (-(1 : Int)))))) = some res := hm
    refine gS_Asg ?_
    obtain ⟨x2, hq1, hm1⟩ := bindS hm0
    refine gCE (fun (v : V) (H : Hp) => ∃ (G : Hp), Ext G0 G ∧ Sub G (O) H ∧ R.rel (rP2 K (rP2 K rInt rInt) (rP2 K rInt rInt)) G v x2) ?_ ?_
    · skip
      refine gIf ?_
      refine gTest ?_
      refine gOp ?_
      refine gOp ?_
      refine gV rfl ?_
      refine gC ?_
      refine q_p2_1 S0 h1 (fun v7 h11 => ?_)
      obtain rfl := (show v7 = (V.int start1.2) from h11)
      refine gOp ?_
      refine gV rfl ?_
      refine gC ?_
      refine q_p2_1 S0 h2 (fun v8 h12 => ?_)
      obtain rfl := (show v8 = (V.int stop1.2) from h12)
      refine ⟨_, _, rfl, rfl, ?_⟩
      refine ⟨(decide (start1.2 ≤ stop1.2)), rfl, ?_⟩
      refine ite2 (fun c1 => ?_) (fun c1 => ?_)
      · skip
        have hm2 := (if_pos c1).symm.trans hq1
        refine gTup' ?_
        refine gCons' ?_
        refine gV rfl ?_
        refine gCons' ?_
        refine gV rfl ?_
        refine gNil' ?_
        refine q_tup2 (K := K) S0 (show R.rel (rP2 K rInt rInt) G0 v1 start1 from h1) (show R.rel (rP2 K rInt rInt) G0 v2 stop1 from h2) (fun v9 G3 H3 e3 S3 h13 => ?_)
        have h14 := R.up e3 h1
        have h15 := R.up e3 h2
        have E3 := E0.trans e3
        cases hm2
        exact ⟨G3, e3, S3, h13⟩
      · skip
        have hm3 := (if_neg c1).symm.trans hq1
        refine gTup' ?_
        refine gCons' ?_
        refine gV rfl ?_
        refine gCons' ?_
        refine gV rfl ?_
        refine gNil' ?_
        refine q_tup2 (K := K) S0 (show R.rel (rP2 K rInt rInt) G0 v2 stop1 from h2) (show R.rel (rP2 K rInt rInt) G0 v1 start1 from h1) (fun v10 G4 H4 e4 S4 h16 => ?_)
        have h17 := R.up e4 h1
        have h18 := R.up e4 h2
        have E4 := E0.trans e4
        cases hm3
        exact ⟨G4, e4, S4, h16⟩
    · intro v11 H5 hJ
      obtain ⟨G5, e5, S5, h19⟩ := hJ
      have h20 := R.up e5 h1
      have h21 := R.up e5 h2
      have E5 := E0.trans e5
      refine q_gt2 S5 h19 (fun v12 v13 h22 h23 => ?_)
      refine gS_IfS ?_
      refine gCT (fun (b : Bool) (H : Hp) => ∃ (G : Hp), Ext G5 G ∧ Sub G (O) H ∧ b = ((decide (x2.1.2 > y1)) || (decide (x2.2.2 < (y1 + (1 : Int)))))) ?_ ?_
      · skip
        refine gOr ?_
        refine gTest ?_
        refine gOp ?_
        refine gOp ?_
        refine gV rfl ?_
        refine gC ?_
        refine q_p2_1 S5 h22 (fun v16 h26 => ?_)
        obtain rfl := (show v16 = (V.int x2.1.2) from h26)
        refine gV rfl ?_
        refine ⟨_, _, rfl, rfl, ?_⟩
        refine ⟨(decide (x2.1.2 > y1)), rfl, ?_⟩
        refine ite2 (fun c2 => ?_) (fun c2 => ?_)
        · skip
          exact ⟨G5, (Ext.refl _), S5, (by rw [c2, Bool.true_or])⟩
        · skip
          refine gTest ?_
          refine gOp ?_
          refine gOp ?_
          refine gV rfl ?_
          refine gC ?_
          refine q_p2_1 S5 h23 (fun v17 h27 => ?_)
          obtain rfl := (show v17 = (V.int x2.2.2) from h27)
          refine gOp ?_
          refine gV rfl ?_
          refine gC ?_
          refine ⟨_, _, rfl, rfl, ?_⟩
          refine ⟨_, _, rfl, rfl, ?_⟩
          refine ⟨(decide (x2.2.2 < (y1 + (1 : Int)))), rfl, ?_⟩
          exact ⟨G5, (Ext.refl _), S5, (by rw [ne_false c2, Bool.false_or])⟩
      · intro b1 H6 hJ
        obtain ⟨G6, e6, S6, rfl⟩ := hJ
        have h28 := R.up e6 h20
        have h29 := R.up e6 h21
        have h30 := R.up e6 h22
        have h31 := R.up e6 h23
        have E6 := E5.trans e6
        refine ite2 (fun c3 => ?_) (fun c3 => ?_)
        · skip
          have hm4 := (if_pos c3).symm.trans hm1
          refine gRet ?_
          refine gC ?_
          cases hm4
          exact q G6 H6 E6 S6
        · skip
          have hm5 := (if_neg c3).symm.trans hm1
          refine gNext ?_
          refine gE ?_
          refine gS_AsgN ?_
          refine gOp ?_
          refine gOp ?_
          refine gV rfl ?_
          refine gC ?_
          refine q_p2_1 S6 h31 (fun v18 h32 => ?_)
          obtain rfl := (show v18 = (V.int x2.2.2) from h32)
          refine gOp ?_
          refine gV rfl ?_
          refine gC ?_
          refine q_p2_1 S6 h30 (fun v19 h33 => ?_)
          obtain rfl := (show v19 = (V.int x2.1.2) from h33)
          refine ⟨_, _, rfl, rfl, ?_⟩
          refine gS_AsgN ?_
          refine gOp ?_
          refine gOp ?_
          refine gOp ?_
          refine gC ?_
          refine gOp ?_
          refine gV rfl ?_
          refine gC ?_
          refine q_p2_0 S6 h30 (fun v20 h34 => ?_)
          obtain rfl := (show v20 = (V.int x2.1.1) from h34)
          refine ⟨_, _, rfl, rfl, .inl ⟨by decide, by decide⟩, ?_⟩
          refine gV rfl ?_
          obtain ⟨x3, hq2, hm6⟩ := bindS hm5
          refine q_mul hq2 ?_
          refine gOp ?_
          refine gOp ?_
          refine gOp ?_
          refine gV rfl ?_
          refine gC ?_
          refine q_p2_0 S6 h31 (fun v21 h35 => ?_)
          obtain rfl := (show v21 = (V.int x2.2.1) from h35)
          refine gOp ?_
          refine gV rfl ?_
          refine gC ?_
          refine q_p2_0 S6 h30 (fun v22 h36 => ?_)
          obtain rfl := (show v22 = (V.int x2.1.1) from h36)
          refine ⟨_, _, rfl, rfl, ?_⟩
          refine gOp ?_
          refine gOp ?_
          refine gOp ?_
          refine gC ?_
          refine gV rfl ?_
          refine ⟨_, _, rfl, rfl, .inl ⟨by decide, by decide⟩, ?_⟩
          refine gC ?_
          refine ⟨_, _, rfl, rfl, ?_⟩
          refine gOp ?_
          refine gC ?_
          refine gOp ?_
          refine gV rfl ?_
          refine gC ?_
          refine q_p2_1 S6 h30 (fun v23 h37 => ?_)
          obtain rfl := (show v23 = (V.int x2.1.2) from h37)
          refine ⟨_, _, rfl, rfl, .inl ⟨by decide, by decide⟩, ?_⟩
          refine ⟨_, _, rfl, rfl, ?_⟩
          obtain ⟨x4, hq3, hm7⟩ := bindS hm6
          refine q_mul hq3 ?_
          refine ⟨_, _, rfl, rfl, ?_⟩
          refine gS_IfS ?_
          refine gTest ?_
          refine gOp ?_
          refine gV rfl ?_
          refine gOp ?_
          refine gOp ?_
          refine gOp ?_
          refine gC ?_
          refine gV rfl ?_
          refine ⟨_, _, rfl, rfl, .inl ⟨by decide, by decide⟩, ?_⟩
          refine gC ?_
          refine ⟨_, _, rfl, rfl, ?_⟩
          refine gV rfl ?_
          obtain ⟨x5, hq4, hm8⟩ := bindS hm7
          refine q_mul hq4 ?_
          refine ⟨_, _, rfl, rfl, ?_⟩
          refine ⟨(decide ((x3 + x4) ≤ x5)), rfl, ?_⟩
          refine ite2 (fun c4 => ?_) (fun c4 => ?_)
          · skip
            have hm9 := (if_pos c4).symm.trans hm8
            refine gRet ?_
            refine gC ?_
            cases hm9
            exact q G6 H6 E6 S6
          · skip
            have hm10 := (if_neg c4).symm.trans hm8
            refine gNext ?_
            refine gE ?_
            refine gRet ?_
            refine gCE (fun (v : V) (H : Hp) => ∃ (G : Hp), Ext G6 G ∧ Sub G (O) H ∧ v = (V.int (if (decide (stop1.2 > start1.2)) then (1 : Int) else (-(1 : Int))))) ?_ ?_
            · skip
              refine gIf ?_
              refine gTest ?_
              refine gOp ?_
              refine gOp ?_
              refine gV rfl ?_
              refine gC ?_
              refine q_p2_1 S6 h29 (fun v26 h40 => ?_)
              obtain rfl := (show v26 = (V.int stop1.2) from h40)
              refine gOp ?_
              refine gV rfl ?_
              refine gC ?_
              refine q_p2_1 S6 h28 (fun v27 h41 => ?_)
              obtain rfl := (show v27 = (V.int start1.2) from h41)
              refine ⟨_, _, rfl, rfl, ?_⟩
              refine ⟨(decide (stop1.2 > start1.2)), rfl, ?_⟩
              refine ite2 (fun c5 => ?_) (fun c5 => ?_)
              · skip
                refine gC ?_
                exact ⟨G6, (Ext.refl _), S6, congrArg V.int (if_pos c5).symm⟩
              · skip
                refine gUn ?_
                refine gC ?_
                refine ⟨_, rfl, ?_⟩
                exact ⟨G6, (Ext.refl _), S6, congrArg V.int (if_neg c5).symm⟩
            · intro v28 H7 hJ
              obtain ⟨G7, e7, S7, rfl⟩ := hJ
              have h43 := R.up e7 h28
              have h44 := R.up e7 h29
              have h45 := R.up e7 h30
              have h46 := R.up e7 h31
              have E7 := E6.trans e7
              cases hm10
              exact q G7 H7 E7 S7
end
end Mr

set_option Elab.async false
set_option linter.all false
set_option maxRecDepth 100000
set_option maxHeartbeats 4000000
set_option synthInstance.maxSize 4000
set_option synthInstance.maxHeartbeats 400000
namespace Mr
open PySem PySem.Spec PyProof.Rows L2 GFr
section
variable {P : Program} {w : World} {K : PySem.W.Frag} {mg : Str → Option Value} {base : Heap}
theorem sc_winding : FnScope ["rings", "x", "y", "total", "ring", "start", "stop"] ["rings", "x", "y"] (defScope s_winding) := ⟨rfl, rfl, rfl, by decide +kernel, rfl, by decide +kernel, by decide +kernel⟩
theorem ok_winding (T : Tx K mg) : FnOk P w K mg base CX0 2 (He.fAd K ("winding", none)) T.fd_winding ["rings", "x", "y"] (sp_winding K w) := by
  have G_count_of := ok_count_of (P := P) (w := w) (base := base) T
  refine T.F_winding.ok sc_winding (fun vs H Q E h => ?_) (fun cdv A outer s H0 vs Q E hr h => ?_)
  · obtain ⟨G, O, v1, rings1, x1, y1, rfl, _⟩ := h
    rfl
  · obtain ⟨G0, O, v1, rings1, x1, y1, rfl, S0, h1, res, hm, q⟩ := h
    refine ⟨_, PSs.nox (pss_cons (ps_set (i := 3) sc_winding.nd rfl (.inl rfl) pe_int)
      (pss_cons (ps_cut (ps_for PassesOwn.never rfl (pi_Q (pv 0)) (pg_name (i := 4) sc_winding.nd rfl (.inl rfl))
      (pss_one (ps_cut (ps_forEs (es_D T) hr T.F_each_side.kp (by rfl) rfl (pa_cons (pv 4) pa_nil) (pg_tup rfl (pgs_cons (pg_name (i := 5) sc_winding.nd rfl (.inl rfl)) (pgs_cons (pg_name (i := 6) sc_winding.nd rfl (.inl rfl)) pgs_nil)))
      (pss_one (ps_aug (i := 3) sc_winding.nd rfl (.inl rfl) (pe_call G_count_of (hr.mono (by decide)) (by rfl) T.g_count_of T.F_count_of.kp T.b_count_of .nil pass0 (pa_cons (pv 5) (pa_cons (pv 6) (pa_cons (pv 1) (pa_cons (pv 2) pa_nil))))) ip_add)))))))
      (pss_one (ps_ret (pv 3))))), ?_⟩
    have E0 := Ext.refl G0
    have hm0 : (Option.bind (folM (m_winding_b1 x1 y1) rings1 (0 : Int)) fun total1 =>
  some total1) = some res := hm
    refine gS_AsgN ?_
    refine gC ?_
    obtain ⟨total1, hl1, hm1⟩ := bindS hm0
    refine gS_CS (fun (σ : L2.St) (H : Hp) => ∃ (G : Hp) (y2 : Option V) (y3 : Option V) (y4 : Option V), Ext G0 G ∧ Sub G (O) H ∧ σ = [some v1, some (V.int x1), some (V.int y1), some (V.int total1), y2, y3, y4]) ?_ ?_
    · skip
      refine gFor ?_
      refine gIQ ?_
      refine gV rfl ?_
      refine lp_Q (r := (rQ K (rP2 K rInt rInt))) S0 h1 (fol_for Empty hl1) (fun (s : Int) (σ : L2.St) (H : Hp) => ∃ (G : Hp) (y2 : Option V) (y3 : Option V) (y4 : Option V), Ext G0 G ∧ Sub G (O) H ∧ σ = [some v1, some (V.int x1), some (V.int y1), some (V.int s), y2, y3, y4]) ⟨G0, _, _, _, (Ext.refl _), S0, rfl⟩ ?_ ?_ ?_
      · intro s σ H hI
        obtain ⟨G, k1, k2, k3, ie, iS, _⟩ := hI
        exact ie.trans iS.ext
      · intro i1 x2 total2 b1 hb1 hr1 v2 σ1 H1 hI1 h2
        obtain ⟨s2, hb2, hb3⟩ := goF_some hb1
        subst hb3
        obtain ⟨G1, y5, y6, y7, e1, S1, rfl⟩ := hI1
        have h3 := R.up e1 h1
        have h4 := R.up e1 h1
        have E1 := E0.trans e1
        have h5 := R.up e1 h2
        have hm2 : (Option.bind (folM (m_winding_b2 x1 y1) (sidesM x2) total2) fun total3 =>   some total3) = some s2 := hb2
        obtain ⟨total3, hl2, hm3⟩ := bindS hm2
        refine gCS (fun (σ : L2.St) (H : Hp) => ∃ (G : Hp) (y8 : Option V) (y9 : Option V), Ext G1 G ∧ Sub G (O) H ∧ σ = [some v1, some (V.int x1), some (V.int y1), some (V.int total3), some v2, y8, y9]) ?_ ?_
        · skip
          refine gFor ?_
          refine gIEs ?_
          refine gCons' ?_
          refine gV rfl ?_
          refine gNil' ?_
          refine lp_Es (r := (rP2 K rInt rInt)) rf_P2 S1 h5 (fol_for Empty hl2) (fun (s : Int) (σ : L2.St) (H : Hp) => ∃ (G : Hp) (y8 : Option V) (y9 : Option V), Ext G1 G ∧ Sub G (O) H ∧ σ = [some v1, some (V.int x1), some (V.int y1), some (V.int s), some v2, y8, y9]) ⟨G1, _, _, (Ext.refl _), S1, rfl⟩ ?_ ?_ ?_
          · intro s σ H hI
            obtain ⟨G, k4, k5, ie, iS, _⟩ := hI
            exact ie.trans iS.ext
          · intro i2 x3 x4 total4 b2 hb4 hr2 v3 v4 σ2 H2 H3 hI2 hS1 h6 h7
            obtain ⟨s4, hb5, hb6⟩ := goF_some hb4
            subst hb6
            obtain ⟨G2, y10, y11, e2, S2, rfl⟩ := hI2
            have h8 := R.up e2 h3
            have h9 := R.up e2 h5
            have h10 := R.up e2 h4
            have h11 := R.up e2 h5
            have E2 := E1.trans e2
            have S3 := hS1 _ _ S2
            have h12 := R.up e2 h6
            have h13 := R.up e2 h7
            have hm4 : (Option.bind (m_count_of x3 x4 x1 y1) fun r1 =>   some (total4 + r1)) = some s4 := hb5
            refine gAug rfl ?_
            refine gCall ?_
            refine gCons' ?_
            refine gV rfl ?_
            refine gCons' ?_
            refine gV rfl ?_
            refine gCons' ?_
            refine gV rfl ?_
            refine gCons' ?_
            refine gV rfl ?_
            refine gNil' ?_
            obtain ⟨r1, hq1, hm5⟩ := bindS hm4
            refine ⟨G2, (O), v3, x3, v4, x4, x1, y1, rfl, S3, h12, h13, r1, hq1, fun G3 H4 e3 S4 => ?_⟩
            have h14 := R.up e3 h8
            have h15 := R.up e3 h9
            have h16 := R.up e3 h12
            have h17 := R.up e3 h13
            have h18 := R.up e3 h10
            have h19 := R.up e3 h11
            have E3 := E2.trans e3
            refine ⟨_, _, rfl, rfl, ?_⟩
            cases hm5
            exact ⟨_, ⟨G3, _, _, (e2.trans e3), S4, rfl⟩, hr2⟩
          · intro s σ H h1 h2
            cases h1
            obtain ⟨G, k4, k5, ie, irest⟩ := h2
            exact ⟨G, k4, k5, (ie), irest⟩
        · intro σ3 H5 hJ1
          obtain ⟨G4, y12, y13, e4, S5, rfl⟩ := hJ1
          have h20 := R.up e4 h3
          have h21 := R.up e4 h5
          have h22 := R.up e4 h4
          have E4 := E1.trans e4
          cases hm3
          exact ⟨_, ⟨G4, _, _, _, (e1.trans e4), S5, rfl⟩, hr1⟩
      · intro s σ H h1 h2
        cases h1
        obtain ⟨G, k1, k2, k3, ie, irest⟩ := h2
        exact ⟨G, k1, k2, k3, (ie), irest⟩
    · intro σ4 H6 hJ2
      obtain ⟨G5, y14, y15, y16, e5, S6, rfl⟩ := hJ2
      have h23 := R.up e5 h1
      have E5 := E0.trans e5
      refine gRet ?_
      refine gV rfl ?_
      cases hm1
      exact q G5 H6 E5 S6
end
end Mr

set_option Elab.async false
set_option linter.all false
set_option maxRecDepth 100000
set_option maxHeartbeats 4000000
set_option synthInstance.maxSize 4000
set_option synthInstance.maxHeartbeats 400000
namespace Mr
open PySem PySem.Spec PyProof.Rows L2 GFr
section
variable {P : Program} {w : World} {K : PySem.W.Frag} {mg : Str → Option Value} {base : Heap}
theorem sc_ink_of : FnScope ["rings", "found", "y", "x"] ["rings"] (defScope s_ink_of) := ⟨rfl, rfl, rfl, by decide +kernel, rfl, by decide +kernel, by decide +kernel⟩
theorem ok_ink_of (T : Tx K mg) : FnOk P w K mg base CX0 3 (He.fAd K ("ink_of", none)) T.fd_ink_of ["rings"] (sp_ink_of K w) := by
  have G_winding := ok_winding (P := P) (w := w) (base := base) T
  obtain ⟨tk_GRID, c_GRID⟩ := T.c_GRID
  refine T.F_ink_of.ok sc_ink_of (fun vs H Q E h => ?_) (fun cdv A outer s H0 vs Q E hr h => ?_)
  · obtain ⟨G, O, v1, rings1, rfl, _⟩ := h
    rfl
  · obtain ⟨G0, O, v1, rings1, rfl, S0, h1, res, hm, q⟩ := h
    refine ⟨_, PSs.nox (pss_cons (ps_set (i := 1) sc_ink_of.nd rfl (.inl rfl) (pe_lst pa_nil))
      (pss_cons (ps_cut (ps_for PassesOwn.never rfl (pi_range1 (by rfl) T.z_range (pa_cons (pe_glob (v := (V.int (4 : Int))) (by rfl) c_GRID ⟨_, rfl⟩) pa_nil)) (pg_name (i := 2) sc_ink_of.nd rfl (.inr rfl))
      (pss_one (ps_expr (pe_bm PySem.F.plainAttrs_list PySem.F.slot_list_append PySem.F.type_list_append mt_append (pv 1) (pa_cons (pe_m1 PySem.F.slot_str_join PySem.F.type_str_join (mt_joinI (K := K) rfl) (pe_strI (b := ([] : Ink)) (by decide +kernel)) (pe_lc (own := [("x", 3)]) (g := gName 3) (by rfl) sc_ink_of.nd (pi_range1 (by rfl) T.z_range (pa_cons (pe_glob (v := (V.int (4 : Int))) (by rfl) c_GRID ⟨_, rfl⟩) pa_nil)) (blkOk_by (own := [("x", 3)]) (N := ["rings", "found", "y", "x"]) (sc := defScope s_ink_of) (by decide +kernel)) (fun _ _ _ _ _ => (pg_name (i := 3) sc_ink_of.nd rfl (.inl rfl))) (fun _ _ _ _ _ => pts_nil) (fun _ _ _ _ _ => (pe_cut (pe_ifExp (pt_cmpR op_neI (pe_call G_winding (hr.mono (by decide)) (by rfl) T.g_winding T.F_winding.kp T.b_winding .nil pass0 (pa_cons (pv 0) (pa_cons (pv 3) (pa_cons (pv 2) pa_nil)))) pe_int (nomark _)) (pe_strI (b := ([true] : Ink)) (by decide +kernel)) (pe_strI (b := ([false] : Ink)) (by decide +kernel))))))) pa_nil))))))
      (pss_one (ps_ret (pe_callTy (r := rTupOf K) call_tupOf (by rfl) T.z_tuple boot_tuple (pa_cons (pv 1) pa_nil)))))), ?_⟩
    have E0 := Ext.refl G0
    have hm0 : (Option.bind (rngM (4 : Int)) fun xs1 =>
  Option.bind (folM (m_ink_of_b1 rings1) xs1 ([] : List Ink)) fun found1 =>
  some found1) = some res := hm
    refine gS_AsgN ?_
    refine gLst ?_
    refine gNil' ?_
    have h2 : Al (rEn e_Ink) G0 [] [] := True.intro
    refine q_lst S0 h2 (by show 0 ≤ 100000; decide) (fun a1 H1 w1 S1 h3 => ?_)
    obtain ⟨xs1, hq1, hm1⟩ := bindS hm0
    obtain ⟨found1, hl1, hm2⟩ := bindS hm1
    refine gS_CS (fun (σ : L2.St) (H : Hp) => ∃ (G : Hp) (w2 : List V) (y1 : Option V) (y2 : Option V), Ext G0 G ∧ Sub G ((a1, HO.lst w2) :: O) H ∧ σ = [some v1, some (V.ref a1), y1, y2] ∧ Al (rEn e_Ink) G w2 found1) ?_ ?_
    · skip
      refine gFor ?_
      refine gIR ?_
      refine gCons' ?_
      refine gC ?_
      refine gNil' ?_
      refine lp_R hq1 (fol_for Empty hl1) (fun (s : (List Ink)) (σ : L2.St) (H : Hp) => ∃ (G : Hp) (w2 : List V) (y1 : Option V) (y2 : Option V), Ext G0 G ∧ Sub G ((a1, HO.lst w2) :: O) H ∧ σ = [some v1, some (V.ref a1), y1, y2] ∧ Al (rEn e_Ink) G w2 s) ⟨G0, w1, _, _, (Ext.refl _), S1, rfl, h3⟩ ?_ ?_
      · intro i1 x1 found2 b1 hb1 hr1 σ1 H2 hI1
        obtain ⟨s2, hb2, hb3⟩ := goF_some hb1
        subst hb3
        obtain ⟨G1, w3, y3, y4, e1, S2, rfl, h5⟩ := hI1
        have h6 := R.up e1 h1
        have E1 := E0.trans e1
        have hm3 : (Option.bind (rngM (4 : Int)) fun xs2 =>   Option.bind (folM (m_ink_of_c2 rings1 x1) xs2 ([] : (List Ink))) fun acc1 =>   Option.bind (joinI acc1) fun k5 =>   Option.bind (appM found2 k5) fun found3 =>   some found3) = some s2 := hb2
        refine gDrop ?_
        refine gBM ?_
        refine gV rfl ?_
        refine ⟨.inl ⟨rfl, _, .inl (.inl S2.head)⟩, ?_⟩
        refine gCons' ?_
        refine gM1 ?_
        refine gC ?_
        refine ⟨⟨_, rfl⟩, ?_⟩
        refine gLc ?_
        refine gIR ?_
        refine gCons' ?_
        refine gC ?_
        refine gNil' ?_
        obtain ⟨xs2, hq2, hm4⟩ := bindS hm3
        obtain ⟨acc1, hq6, hm10⟩ := bindS hm4
        refine lc_R hq2 hq6 (fun (D : Addr) (s : (List Ink)) (H : Hp) => ∃ (G : Hp) (w4 : List V), Ext G1 G ∧ Sub G ((D, HO.lst w4) :: (a1, HO.lst w3) :: O) H ∧ Al (rEn e_Ink) G w4 s) ?_ ?_ ?_
        · intro D1 nD1
          exact ⟨G1, [], Ext.refl _, S2.newOwn nD1, True.intro⟩
        · intro D2 i2 x3 acc2 s4 hb4 hr2 H6 hI2
          obtain ⟨G5, w5, e5, S6, h15⟩ := hI2
          have h16 := R.up e5 h6
          have h17 := Al.up e5 h5
          have E5 := E1.trans e5
          refine ⟨rfl, ?_⟩
          have hm11 : (Option.bind (Option.bind (m_winding rings1 x3 x1) fun r3 =>   if (!decide (r3 = (0 : Int))) then (some ([true] : Ink)) else (some ([false] : Ink))) fun x4 =>   Option.bind (appM acc2 x4) fun acc3 =>   some acc3) = some s4 := hb4
          refine gYes ?_
          refine iteT ?_
          obtain ⟨x4, hq8, hm13⟩ := bindS hm11
          refine gCE (fun (v : V) (H : Hp) => ∃ (G : Hp), Ext G5 G ∧ Sub G ((D2, HO.lst w5) :: (a1, HO.lst w3) :: O) H ∧ v = (V.str (e_Ink x4))) ?_ ?_
          · skip
            refine gIf ?_
            refine gTest ?_
            refine gOp ?_
            refine gCall ?_
            refine gCons' ?_
            refine gV rfl ?_
            refine gCons' ?_
            refine gV rfl ?_
            refine gCons' ?_
            refine gV rfl ?_
            refine gNil' ?_
            obtain ⟨r4, hq9, hm14⟩ := bindS hq8
            refine ⟨G5, ((D2, HO.lst w5) :: (a1, HO.lst w3) :: O), v1, rings1, x3, x1, rfl, S6, h16, r4, hq9, fun G7 H8 e7 S8 => ?_⟩
            have h21 := R.up e7 h16
            have h22 := Al.up e7 h17
            have h23 := Al.up e7 h15
            have E7 := E5.trans e7
            refine gC ?_
            refine ⟨_, _, rfl, rfl, ?_⟩
            refine ⟨(!decide (r4 = (0 : Int))), rfl, ?_⟩
            refine ite2 (fun c2 => ?_) (fun c2 => ?_)
            · skip
              have hm15 := (if_pos c2).symm.trans hm14
              refine gC ?_
              cases hm15
              exact ⟨G7, e7, S8, rfl⟩
            · skip
              have hm16 := (if_neg c2).symm.trans hm14
              refine gC ?_
              cases hm16
              exact ⟨G7, e7, S8, rfl⟩
          · intro v5 H9 hJ
            obtain ⟨G8, e8, S9, rfl⟩ := hJ
            have h25 := R.up e8 h16
            have h26 := Al.up e8 h17
            have h27 := Al.up e8 h15
            have E8 := E5.trans e8
            obtain ⟨acc3, hq10, hm17⟩ := bindS hm13
            refine q_lcEl S9 h27 (show R.rel (rEn e_Ink) G8 (V.str (e_Ink x4)) x4 from rfl) hq10 (fun H10 w6 S10 h28 => ?_)
            cases hm17
            exact ⟨_, ⟨G8, w6, (e5.trans e8), S10, h28⟩, hr2⟩
        · intro D3 H11 hI3
          obtain ⟨G9, w7, e9, S11, h29⟩ := hI3
          have h30 := R.up e9 h6
          have h31 := Al.up e9 h5
          have E9 := E1.trans e9
          obtain ⟨G10, e10, S12, h32⟩ := frz_M S11 h29
          have h33 := R.up e10 h30
          have h34 := Al.up e10 h31
          have E10 := E9.trans e10
          obtain ⟨k5, hq11, hm18⟩ := bindS hm10
          refine q_joinI S12 h32 hq11 ?_
          refine gNil' ?_
          obtain ⟨found3, hq12, hm19⟩ := bindS hm18
          refine q_app S12 h34 (show R.rel (rEn e_Ink) G10 (V.str (e_Ink k5)) k5 from rfl) hq12 (fun H12 w8 S13 h35 => ?_)
          cases hm19
          exact ⟨_, ⟨G10, w8, _, _, ((e1.trans e9).trans e10), S13, rfl, h35⟩, hr1⟩
      · intro s σ H h1 h2
        cases h1
        obtain ⟨G, k1, k2, k3, ie, irest⟩ := h2
        exact ⟨G, k1, k2, k3, (ie), irest⟩
    · intro σ2 H13 hJ1
      obtain ⟨G11, w9, y5, y6, e11, S14, rfl, h36⟩ := hJ1
      have h37 := R.up e11 h1
      have E11 := E0.trans e11
      refine gRet ?_
      refine gCB ?_
      refine gCons' ?_
      refine gV rfl ?_
      refine gNil' ?_
      refine q_tupO S14 h36 (fun v6 G12 H14 e12 S15 h38 => ?_)
      have h39 := R.up e12 h37
      have h40 := Al.up e12 h36
      have E12 := E11.trans e12
      have S16 := S15.tail
      cases hm2
      exact q v6 G12 H14 E12 S16 h38
end
end Mr

set_option Elab.async false
set_option linter.all false
set_option maxRecDepth 100000
set_option maxHeartbeats 4000000
set_option synthInstance.maxSize 4000
set_option synthInstance.maxHeartbeats 400000
namespace Mr
open PySem PySem.Spec PyProof.Rows L2 GFr
section
variable {P : Program} {w : World} {K : PySem.W.Frag} {mg : Str → Option Value} {base : Heap}
theorem sc_leftmost : FnScope ["ink", "row", "place"] ["ink", "row"] (defScope s_leftmost) := ⟨rfl, rfl, rfl, by decide +kernel, rfl, by decide +kernel, by decide +kernel⟩
theorem ok_leftmost (T : Tx K mg) : FnOk P w K mg base CX0 1 (He.fAd K ("leftmost", none)) T.fd_leftmost ["ink", "row"] (sp_leftmost K w) := by
  refine T.F_leftmost.ok sc_leftmost (fun vs H Q E h => ?_) (fun cdv A outer s H0 vs Q E hr h => ?_)
  · obtain ⟨G, O, v1, ink1, row1, rfl, _⟩ := h
    rfl
  · obtain ⟨G0, O, v1, ink1, row1, rfl, S0, h1, res, hm, q⟩ := h
    refine ⟨_, PSs.nox (pss_cons (ps_set (i := 2) sc_leftmost.nd rfl (.inl rfl) (pe_m1 PySem.F.slot_str_find PySem.F.type_str_find mt_findI (pe_ix ix_tup (pv 0) (pv 1) (fun _ _ => rfl)) (pe_strI (b := ([true] : Ink)) (by decide +kernel))))
      (pss_one (ps_ret (pe_cut (pe_ifExp (pt_cmpR op_lt (pv 2) pe_int (nomark _)) pe_non (pv 2)))))), ?_⟩
    have E0 := Ext.refl G0
    have hm0 : (Option.bind (getM ink1 row1) fun x1 =>
  Option.bind (fndM x1) fun k1 =>
  Option.bind (if (decide (k1 < (0 : Int))) then (some (none : (Option Int))) else (some (some k1))) fun x2 =>
  some x2) = some res := hm
    refine gS_AsgN ?_
    refine gM1 ?_
    refine gOp ?_
    refine gV rfl ?_
    refine gV rfl ?_
    obtain ⟨x1, hq1, hm1⟩ := bindS hm0
    refine q_ixT S0 h1 hq1 (fun v2 h2 => ?_)
    obtain rfl := (show v2 = (V.str (e_Ink x1)) from h2)
    refine ⟨⟨_, rfl⟩, ?_⟩
    refine gC ?_
    obtain ⟨k1, hq2, hm2⟩ := bindS hm1
    refine q_findI hq2 ?_
    refine gRet ?_
    obtain ⟨x2, hq3, hm3⟩ := bindS hm2
    refine gCE (fun (v : V) (H : Hp) => ∃ (G : Hp), Ext G0 G ∧ Sub G (O) H ∧ R.rel (rO rInt) G v x2) ?_ ?_
    · skip
      refine gIf ?_
      refine gTest ?_
      refine gOp ?_
      refine gV rfl ?_
      refine gC ?_
      refine ⟨_, _, rfl, rfl, ?_⟩
      refine ⟨(decide (k1 < (0 : Int))), rfl, ?_⟩
      refine ite2 (fun c1 => ?_) (fun c1 => ?_)
      · skip
        have hm4 := (if_pos c1).symm.trans hq3
        refine gC ?_
        cases hm4
        exact ⟨G0, (Ext.refl _), S0, (rO_none : R.rel (rO rInt) G0 V.non none)⟩
      · skip
        have hm5 := (if_neg c1).symm.trans hq3
        refine gV rfl ?_
        cases hm5
        exact ⟨G0, (Ext.refl _), S0, (rO_some (by intro z; cases z) (show R.rel rInt G0 (V.int k1) k1 from rfl))⟩
    · intro v3 H1 hJ
      obtain ⟨G1, e1, S1, h3⟩ := hJ
      have h4 := R.up e1 h1
      have E1 := E0.trans e1
      cases hm3
      exact q v3 G1 H1 E1 S1 h3
end
end Mr

set_option Elab.async false
set_option linter.all false
set_option maxRecDepth 100000
set_option maxHeartbeats 4000000
set_option synthInstance.maxSize 4000
set_option synthInstance.maxHeartbeats 400000
namespace Mr
open PySem PySem.Spec PyProof.Rows L2 GFr
section
variable {P : Program} {w : World} {K : PySem.W.Frag} {mg : Str → Option Value} {base : Heap}
theorem sc_rightmost : FnScope ["ink", "row", "place"] ["ink", "row"] (defScope s_rightmost) := ⟨rfl, rfl, rfl, by decide +kernel, rfl, by decide +kernel, by decide +kernel⟩
theorem ok_rightmost (T : Tx K mg) : FnOk P w K mg base CX0 1 (He.fAd K ("rightmost", none)) T.fd_rightmost ["ink", "row"] (sp_rightmost K w) := by
  refine T.F_rightmost.ok sc_rightmost (fun vs H Q E h => ?_) (fun cdv A outer s H0 vs Q E hr h => ?_)
  · obtain ⟨G, O, v1, ink1, row1, rfl, _⟩ := h
    rfl
  · obtain ⟨G0, O, v1, ink1, row1, rfl, S0, h1, res, hm, q⟩ := h
    refine ⟨_, PSs.nox (pss_cons (ps_set (i := 2) sc_rightmost.nd rfl (.inl rfl) (pe_m1 PySem.F.slot_str_rfind PySem.F.type_str_rfind mt_rfindI (pe_ix ix_tup (pv 0) (pv 1) (fun _ _ => rfl)) (pe_strI (b := ([true] : Ink)) (by decide +kernel))))
      (pss_one (ps_ret (pe_cut (pe_ifExp (pt_cmpR op_lt (pv 2) pe_int (nomark _)) pe_non (pv 2)))))), ?_⟩
    have E0 := Ext.refl G0
    have hm0 : (Option.bind (getM ink1 row1) fun x1 =>
  Option.bind (rfnM x1) fun k1 =>
  Option.bind (if (decide (k1 < (0 : Int))) then (some (none : (Option Int))) else (some (some k1))) fun x2 =>
  some x2) = some res := hm
    refine gS_AsgN ?_
    refine gM1 ?_
    refine gOp ?_
    refine gV rfl ?_
    refine gV rfl ?_
    obtain ⟨x1, hq1, hm1⟩ := bindS hm0
    refine q_ixT S0 h1 hq1 (fun v2 h2 => ?_)
    obtain rfl := (show v2 = (V.str (e_Ink x1)) from h2)
    refine ⟨⟨_, rfl⟩, ?_⟩
    refine gC ?_
    obtain ⟨k1, hq2, hm2⟩ := bindS hm1
    refine q_rfindI hq2 ?_
    refine gRet ?_
    obtain ⟨x2, hq3, hm3⟩ := bindS hm2
    refine gCE (fun (v : V) (H : Hp) => ∃ (G : Hp), Ext G0 G ∧ Sub G (O) H ∧ R.rel (rO rInt) G v x2) ?_ ?_
    · skip
      refine gIf ?_
      refine gTest ?_
      refine gOp ?_
      refine gV rfl ?_
      refine gC ?_
      refine ⟨_, _, rfl, rfl, ?_⟩
      refine ⟨(decide (k1 < (0 : Int))), rfl, ?_⟩
      refine ite2 (fun c1 => ?_) (fun c1 => ?_)
      · skip
        have hm4 := (if_pos c1).symm.trans hq3
        refine gC ?_
        cases hm4
        exact ⟨G0, (Ext.refl _), S0, (rO_none : R.rel (rO rInt) G0 V.non none)⟩
      · skip
        have hm5 := (if_neg c1).symm.trans hq3
        refine gV rfl ?_
        cases hm5
        exact ⟨G0, (Ext.refl _), S0, (rO_some (by intro z; cases z) (show R.rel rInt G0 (V.int k1) k1 from rfl))⟩
    · intro v3 H1 hJ
      obtain ⟨G1, e1, S1, h3⟩ := hJ
      have h4 := R.up e1 h1
      have E1 := E0.trans e1
      cases hm3
      exact q v3 G1 H1 E1 S1 h3
end
end Mr

set_option Elab.async false
set_option linter.all false
set_option maxRecDepth 100000
set_option maxHeartbeats 4000000
set_option synthInstance.maxSize 4000
set_option synthInstance.maxHeartbeats 400000
namespace Mr
open PySem PySem.Spec PyProof.Rows L2 GFr
section
variable {P : Program} {w : World} {K : PySem.W.Frag} {mg : Str → Option Value} {base : Heap}
theorem sc_step_of : FnScope ["ink", "cells"] ["ink"] (defScope s_step_of) := ⟨rfl, rfl, rfl, by decide +kernel, rfl, by decide +kernel, by decide +kernel⟩
theorem ok_step_of (T : Tx K mg) : FnOk P w K mg base CX0 1 (He.fAd K ("step_of", none)) T.fd_step_of ["ink"] (sp_step_of K w) := by
  refine T.F_step_of.ok sc_step_of (fun vs H Q E h => ?_) (fun cdv A outer s H0 vs Q E hr h => ?_)
  · obtain ⟨G, O, v1, ink1, rfl, _⟩ := h
    rfl
  · obtain ⟨G0, O, v1, ink1, rfl, S0, h1, res, hm, q⟩ := h
    refine ⟨_, PSs.nox (pss_one (ps_ret (pe_op op_add (pe_callB (r := rMax K) (cr_max rfl) (by rfl) T.z_max boot_max (pa_cons (pe_lc (own := [("cells", 1)]) (g := gName 1) (by rfl) sc_step_of.nd (pi_tup (pv 0)) (blkOk_by (own := [("cells", 1)]) (N := ["ink", "cells"]) (sc := defScope s_step_of) (by decide +kernel)) (fun _ _ _ _ _ => (pg_name (i := 1) sc_step_of.nd rfl (.inl rfl))) (fun _ _ _ _ _ => pts_nil) (fun _ _ _ _ _ => (pe_m1 PySem.F.slot_str_rfind PySem.F.type_str_rfind mt_rfindI (pv 1) (pe_strI (b := ([true] : Ink)) (by decide +kernel))))) pa_nil)) pe_int))), ?_⟩
    have E0 := Ext.refl G0
    have hm0 : (Option.bind (folM (m_step_of_c1) ink1 ([] : (List Int))) fun acc1 =>
  Option.bind (maxM acc1) fun x2 =>
  some (x2 + (1 : Int))) = some res := hm
    refine gRet ?_
    refine gOp ?_
    refine gCB ?_
    refine gCons' ?_
    refine gLc ?_
    refine gIT ?_
    refine gV rfl ?_
    obtain ⟨acc1, hq2, hm2⟩ := bindS hm0
    refine lc_T (r := (rEn e_Ink)) S0 h1 hq2 (fun (D : Addr) (s : (List Int)) (H : Hp) => ∃ (G : Hp) (w1 : List V), Ext G0 G ∧ Sub G ((D, HO.lst w1) :: O) H ∧ Al rInt G w1 s) ?_ ?_ ?_ ?_
    · intro D1 nD1
      exact ⟨G0, [], Ext.refl _, S0.newOwn nD1, True.intro⟩
    · intro D s H hI
      obtain ⟨G, k2, ie, iS, _⟩ := hI
      exact ie.trans iS.ext
    · intro D2 i1 x1 acc2 s2 hb1 hr1 v2 H1 hI1 h2
      obtain ⟨G1, w2, e1, S1, h3⟩ := hI1
      have h4 := R.up e1 h1
      have E1 := E0.trans e1
      obtain rfl := (show v2 = (V.str (e_Ink x1)) from h2)
      refine ⟨rfl, ?_⟩
      have hm3 : (Option.bind (rfnM x1) fun k3 =>   Option.bind (appM acc2 k3) fun acc3 =>   some acc3) = some s2 := hb1
      refine gYes ?_
      refine iteT ?_
      refine gM1 ?_
      refine gV rfl ?_
      refine ⟨⟨_, rfl⟩, ?_⟩
      refine gC ?_
      obtain ⟨k3, hq3, hm4⟩ := bindS hm3
      refine q_rfindI hq3 ?_
      obtain ⟨acc3, hq4, hm5⟩ := bindS hm4
      refine q_lcEl S1 h3 (show R.rel rInt G1 (V.int k3) k3 from rfl) hq4 (fun H2 w3 S2 h5 => ?_)
      cases hm5
      exact ⟨_, ⟨G1, w3, e1, S2, h5⟩, hr1⟩
    · intro D3 H3 hI2
      obtain ⟨G2, w4, e2, S3, h6⟩ := hI2
      have h7 := R.up e2 h1
      have E2 := E0.trans e2
      refine gNil' ?_
      obtain ⟨G3, e3, S4, h8⟩ := frz_M S3 h6
      have h9 := R.up e3 h7
      have E3 := E2.trans e3
      obtain ⟨x2, hq5, hm6⟩ := bindS hm2
      refine q_max S4 (rM_L (K := K) h8) hq5 ?_
      refine gC ?_
      refine ⟨_, _, rfl, rfl, ?_⟩
      cases hm6
      exact q G3 H3 E3 S4
end
end Mr

set_option Elab.async false
set_option linter.all false
set_option maxRecDepth 100000
set_option maxHeartbeats 4000000
set_option synthInstance.maxSize 4000
set_option synthInstance.maxHeartbeats 400000
namespace Mr
open PySem PySem.Spec PyProof.Rows L2 GFr
section
variable {P : Program} {w : World} {K : PySem.W.Frag} {mg : Str → Option Value} {base : Heap}
theorem sc_blanks : FnScope ["left", "right", "row", "gap", "last", "first"] ["left", "right", "row", "gap"] (defScope s_blanks) := ⟨rfl, rfl, rfl, by decide +kernel, rfl, by decide +kernel, by decide +kernel⟩
theorem ok_blanks (T : Tx K mg) : FnOk P w K mg base CX0 2 (He.fAd K ("blanks", none)) T.fd_blanks ["left", "right", "row", "gap"] (sp_blanks K w) := by
  have G_leftmost := ok_leftmost (P := P) (w := w) (base := base) T
  have G_rightmost := ok_rightmost (P := P) (w := w) (base := base) T
  have G_step_of := ok_step_of (P := P) (w := w) (base := base) T
  refine T.F_blanks.ok sc_blanks (fun vs H Q E h => ?_) (fun cdv A outer s H0 vs Q E hr h => ?_)
  · obtain ⟨G, O, v1, left1, v2, right1, row1, gap1, rfl, _⟩ := h
    rfl
  · obtain ⟨G0, O, v1, left1, v2, right1, row1, gap1, rfl, S0, h1, h2, res, hm, q⟩ := h
    refine ⟨_, PSs.nox (pss_cons (ps_par (i := 4) (j := 5) (by rfl) sc_blanks.nd rfl rfl (by decide) rfl rfl (pa_cons (pe_call G_rightmost (hr.mono (by decide)) (by rfl) T.g_rightmost T.F_rightmost.kp T.b_rightmost .nil pass0 (pa_cons (pv 0) (pa_cons (pv 2) pa_nil))) (pa_cons (pe_call G_leftmost (hr.mono (by decide)) (by rfl) T.g_leftmost T.F_leftmost.kp T.b_leftmost .nil pass0 (pa_cons (pv 1) (pa_cons (pv 2) pa_nil))) pa_nil)) (by rfl))
      (pss_cons (ps_if (pt_cut (PW.pt (pw_or (pt_cmpR op_isNon (pv 4) pe_non (nomark _)) (pw_or1 (pt_cmpR op_isNon (pv 5) pe_non (nomark _)))))) (pss_one (ps_ret pe_non)) pss_nil)
      (pss_one (ps_ret (pe_op op_sub (pe_op op_sub (pe_op op_add (pe_op op_add (pe_call G_step_of (hr.mono (by decide)) (by rfl) T.g_step_of T.F_step_of.kp T.b_step_of .nil pass0 (pa_cons (pv 0) pa_nil)) (pv 3)) (pv 5)) (pv 4)) pe_int))))), ?_⟩
    have E0 := Ext.refl G0
    have hm0 : (Option.bind (m_rightmost left1 row1) fun r1 =>
  Option.bind (m_leftmost right1 row1) fun r2 =>
  if ((r1.isNone) || (r2.isNone)) then (some (none : (Option Int)))
  else (Option.bind (m_step_of left1) fun r3 =>
  Option.bind (r2) fun j1 =>
  Option.bind (r1) fun j2 =>
  some (some ((((r3 + gap1) + j1) - j2) - (1 : Int))))) = some res := hm
    refine gS_Par ?_
    refine gCons' ?_
    refine gCall ?_
    refine gCons' ?_
    refine gV rfl ?_
    refine gCons' ?_
    refine gV rfl ?_
    refine gNil' ?_
    obtain ⟨r1, hq1, hm1⟩ := bindS hm0
    refine ⟨G0, (O), v1, left1, row1, rfl, S0, h1, r1, hq1, fun v3 G1 H1 e1 S1 h3 => ?_⟩
    have h4 := R.up e1 h1
    have h5 := R.up e1 h2
    have E1 := E0.trans e1
    refine gCons' ?_
    refine gCall ?_
    refine gCons' ?_
    refine gV rfl ?_
    refine gCons' ?_
    refine gV rfl ?_
    refine gNil' ?_
    obtain ⟨r2, hq2, hm2⟩ := bindS hm1
    refine ⟨G1, (O), v2, right1, row1, rfl, S1, h5, r2, hq2, fun v4 G2 H2 e2 S2 h6 => ?_⟩
    have h7 := R.up e2 h4
    have h8 := R.up e2 h5
    have h9 := R.up e2 h3
    have E2 := E1.trans e2
    refine gNil' ?_
    refine ⟨_, _, rfl, ?_⟩
    refine gS_IfS ?_
    refine gCT (fun (b : Bool) (H : Hp) => ∃ (G : Hp), Ext G2 G ∧ Sub G (O) H ∧ b = ((r1.isNone) || (r2.isNone))) ?_ ?_
    · skip
      refine gOr ?_
      refine gTest ?_
      refine gOp ?_
      refine gV rfl ?_
      refine gC ?_
      refine q_isNon h9 ?_
      refine ⟨(r1.isNone), rfl, ?_⟩
      refine ite2 (fun c1 => ?_) (fun c1 => ?_)
      · skip
        exact ⟨G2, (Ext.refl _), S2, (by rw [c1, Bool.true_or])⟩
      · skip
        refine gTest ?_
        refine gOp ?_
        refine gV rfl ?_
        refine gC ?_
        refine q_isNon h6 ?_
        refine ⟨(r2.isNone), rfl, ?_⟩
        exact ⟨G2, (Ext.refl _), S2, (by rw [ne_false c1, Bool.false_or])⟩
    · intro b1 H3 hJ
      obtain ⟨G3, e3, S3, rfl⟩ := hJ
      have h10 := R.up e3 h7
      have h11 := R.up e3 h8
      have h12 := R.up e3 h9
      have h13 := R.up e3 h6
      have E3 := E2.trans e3
      refine ite2 (fun c2 => ?_) (fun c2 => ?_)
      · skip
        have hm3 := (if_pos c2).symm.trans hm2
        refine gRet ?_
        refine gC ?_
        cases hm3
        exact q V.non G3 H3 E3 S3 (rO_none : R.rel (rO rInt) G3 V.non none)
      · skip
        have hm4 := (if_neg c2).symm.trans hm2
        refine gNext ?_
        refine gE ?_
        refine gRet ?_
        refine gOp ?_
        refine gOp ?_
        refine gOp ?_
        refine gOp ?_
        refine gCall ?_
        refine gCons' ?_
        refine gV rfl ?_
        refine gNil' ?_
        obtain ⟨r3, hq3, hm5⟩ := bindS hm4
        refine ⟨G3, (O), v1, left1, rfl, S3, h10, r3, hq3, fun G4 H4 e4 S4 => ?_⟩
        have h14 := R.up e4 h10
        have h15 := R.up e4 h11
        have h16 := R.up e4 h12
        have h17 := R.up e4 h13
        have E4 := E3.trans e4
        refine gV rfl ?_
        refine ⟨_, _, rfl, rfl, ?_⟩
        refine gV rfl ?_
        obtain ⟨j1, hq4, hm6⟩ := bindS hm5
        have h18 := rO_get h17 hq4
        obtain rfl := (show v4 = (V.int j1) from h18)
        refine ⟨_, _, rfl, rfl, ?_⟩
        refine gV rfl ?_
        obtain ⟨j2, hq5, hm7⟩ := bindS hm6
        have h19 := rO_get h16 hq5
        obtain rfl := (show v3 = (V.int j2) from h19)
        refine ⟨_, _, rfl, rfl, ?_⟩
        refine gC ?_
        refine ⟨_, _, rfl, rfl, ?_⟩
        cases hm7
        exact q (V.int ((((r3 + gap1) + j1) - j2) - (1 : Int))) G4 H4 E4 S4 (rO_some (by intro z; cases z) (show R.rel rInt G4 (V.int ((((r3 + gap1) + j1) - j2) - (1 : Int))) ((((r3 + gap1) + j1) - j2) - (1 : Int)) from rfl))
end
end Mr

set_option Elab.async false
set_option linter.all false
set_option maxRecDepth 100000
set_option maxHeartbeats 4000000
set_option synthInstance.maxSize 4000
set_option synthInstance.maxHeartbeats 400000
namespace Mr
open PySem PySem.Spec PyProof.Rows L2 GFr
section
variable {P : Program} {w : World} {K : PySem.W.Frag} {mg : Str → Option Value} {base : Heap}
theorem sc_bad_count : FnScope ["outlines", "apart"] ["outlines", "apart"] (defScope s_bad_count) := ⟨rfl, rfl, rfl, by decide +kernel, rfl, by decide +kernel, by decide +kernel⟩
theorem ok_bad_count (T : Tx K mg) : FnOk P w K mg base CX0 1 (He.fAd K ("bad_count", none)) T.fd_bad_count ["outlines", "apart"] (sp_bad_count K w) := by
  obtain ⟨tk_LETTERS, c_LETTERS⟩ := T.c_LETTERS
  obtain ⟨tk_MOST_APART, c_MOST_APART⟩ := T.c_MOST_APART
  refine T.F_bad_count.ok sc_bad_count (fun vs H Q E h => ?_) (fun cdv A outer s H0 vs Q E hr h => ?_)
  · obtain ⟨G, O, v1, outlines1, apart1, rfl, _⟩ := h
    rfl
  · obtain ⟨G0, O, v1, outlines1, apart1, rfl, S0, h1, res, hm, q⟩ := h
    refine ⟨_, PSs.nox (pss_cons (ps_if (pt_not (pt_val (pe_callB (r := rIsiT K) call_isiT (by rfl) T.z_isinstance boot_isinstance (pa_cons (pv 0) (pa_cons (pe_tup (pa_cons (pe_bltn (v := .ty "list") (by rfl) T.z_list boot_list rfl) (pa_cons (pe_bltn (v := .ty "tuple") (by rfl) T.z_tuple boot_tuple rfl) pa_nil))) pa_nil))))) (pss_one ps_never) pss_nil)
      (pss_cons (ps_if (pt_not (pt_cut (pt_chain op_le op_le pe_int (pe_callB (r := rLenM K) call_lenM (by rfl) T.z_len boot_len (pa_cons (pv 0) pa_nil)) (pe_callB (r := rLenS) call_lenS (by rfl) T.z_len boot_len (pa_cons (pe_glob (v := (V.str (e_T ([97, 98, 99, 100] : Wrd)))) (by rfl) c_LETTERS ⟨_, rfl⟩) pa_nil))))) (pss_one (ps_ret (pe_tup (pa_cons (pe_callB (r := rLenM K) call_lenM (by rfl) T.z_len boot_len (pa_cons (pv 0) pa_nil)) pa_nil)))) pss_nil)
      (pss_cons (ps_if (pt_cut (PW.pt (pw_or (pt_not (pt_val (pe_callB (r := rIsi K) call_isi (by rfl) T.z_isinstance boot_isinstance (pa_cons (pv 1) (pa_cons (pe_bltn (v := .ty "int") (by rfl) T.z_int boot_int rfl) pa_nil))))) (pw_or (pt_val (pe_callB (r := rIsi K) call_isi (by rfl) T.z_isinstance boot_isinstance (pa_cons (pv 1) (pa_cons (pe_bltn (v := .ty "bool") (by rfl) T.z_bool boot_bool rfl) pa_nil)))) (pw_or1 (pt_not (pt_cut (pt_chain op_le op_le pe_int (pv 1) (pe_glob (v := (V.int (2 : Int))) (by rfl) c_MOST_APART ⟨_, rfl⟩))))))))) (pss_one (ps_ret (pe_tup (pa_cons (pv 1) pa_nil)))) pss_nil)
      (pss_one (ps_ret pe_non))))), ?_⟩
    have E0 := Ext.refl G0
    have hm0 : (if (!((decide ((1 : Int) ≤ (outlines1.length : Int))) && (decide ((outlines1.length : Int) ≤ (4 : Int))))) then (some (some ([(outlines1.length : Int)] : List Int)))
  else (if (!((decide ((0 : Int) ≤ apart1)) && (decide (apart1 ≤ (2 : Int))))) then (some (some ([apart1] : List Int)))
  else (some (none : (Option (List Int)))))) = some res := hm
    refine gS_IfS ?_
    refine gNot ?_
    refine gB ?_
    refine gCB ?_
    refine gCons' ?_
    refine gV rfl ?_
    refine gCons' ?_
    refine gTup' ?_
    refine gCons' ?_
    refine gC ?_
    refine gCons' ?_
    refine gC ?_
    refine gNil' ?_
    refine ⟨sz (by show 2 ≤ 100000; decide), fun p2 np2 => ?_⟩
    have S2 : Sub G0 (O) (upd H0 p2 (HO.tup (List.map V.ty (["list", "tuple"] : List String)))) := S0.junk np2
    refine gNil' ?_
    refine q_isiT (t := "list") (cs := (["list", "tuple"] : List String)) (ty_L (rM_L (K := K) (R.up S2.ext h1))) (by decide +kernel : kitL "list" (["list", "tuple"] : List String) = some true) ?_
    refine ⟨true, rfl, ?_⟩
    refine ite2 (fun c1 => ?_) (fun c1 => ?_)
    · skip
      exact absurd c1 (by decide)
    · skip
      refine gNext ?_
      refine gE ?_
      refine gS_IfS ?_
      refine gNot ?_
      refine gCT (fun (b : Bool) (H : Hp) => H = (upd H0 p2 (HO.tup (List.map V.ty (["list", "tuple"] : List String)))) ∧ b = ((decide ((1 : Int) ≤ (outlines1.length : Int))) && (decide ((outlines1.length : Int) ≤ (4 : Int))))) ?_ ?_
      · skip
        refine gTest ?_
        refine gChain ?_
        refine gC ?_
        refine gCB ?_
        refine gCons' ?_
        refine gV rfl ?_
        refine gNil' ?_
        refine q_lenL (y := V.non) S2 (rM_L (K := K) h1) ?_
        refine ⟨_, _, rfl, rfl, ⟨(decide ((1 : Int) ≤ (outlines1.length : Int))), rfl, ?_⟩⟩
        refine ite2 (fun c2 => ?_) (fun c2 => ?_)
        · skip
          refine gCB ?_
          refine gCons' ?_
          refine gC ?_
          refine gNil' ?_
          refine q_lenT' (show lenT ([97, 98, 99, 100] : Wrd) = some 4 from rfl) ?_
          exact ⟨_, _, rfl, rfl, (decide ((outlines1.length : Int) ≤ (4 : Int))), rfl, rfl, by rw [c2, Bool.true_and]⟩
        · exact ⟨false, rfl, ⟨rfl, by rw [ne_false c2, Bool.false_and]⟩⟩
      · rintro b1 H1 ⟨e1, rfl⟩
        rw [e1]
        refine ite2 (fun c3 => ?_) (fun c3 => ?_)
        · skip
          have hm1 := (if_pos c3).symm.trans hm0
          refine gRet ?_
          refine gTup' ?_
          refine gCons' ?_
          refine gCB ?_
          refine gCons' ?_
          refine gV rfl ?_
          refine gNil' ?_
          refine q_lenL (y := V.non) S2 (rM_L (K := K) h1) ?_
          refine gNil' ?_
          have h2 : Al rInt G0 [(V.int (outlines1.length : Int))] ([(outlines1.length : Int)] : List Int) := ⟨rfl, True.intro⟩
          refine q_tupN (K := K) S2 (by show 1 ≤ 100000; decide) h2 (fun v2 G1 H2 e2 S3 h3 => ?_)
          have h4 := R.up e2 h1
          have E1 := E0.trans e2
          cases hm1
          exact q v2 G1 H2 E1 S3 (rO_some (nn_T h3) (show R.rel (rT K rInt) G1 v2 ([(outlines1.length : Int)] : List Int) from h3))
        · skip
          have hm2 := (if_neg c3).symm.trans hm0
          refine gNext ?_
          refine gE ?_
          refine gS_IfS ?_
          refine gCT (fun (b : Bool) (H : Hp) => ∃ (G : Hp), Ext G0 G ∧ Sub G (O) H ∧ b = (!((decide ((0 : Int) ≤ apart1)) && (decide (apart1 ≤ (2 : Int)))))) ?_ ?_
          · skip
            refine gOr ?_
            refine gNot ?_
            refine gB ?_
            refine gCB ?_
            refine gCons' ?_
            refine gV rfl ?_
            refine gCons' ?_
            refine gC ?_
            refine gNil' ?_
            refine q_isi (ty_I _) (by decide +kernel : kitB "int" "int" = some true) ?_
            refine ⟨true, rfl, ?_⟩
            refine ite2 (fun c5 => ?_) (fun c5 => ?_)
            · skip
              exact absurd c5 (by decide)
            · skip
              refine gOr ?_
              refine gB ?_
              refine gCB ?_
              refine gCons' ?_
              refine gV rfl ?_
              refine gCons' ?_
              refine gC ?_
              refine gNil' ?_
              refine q_isi (ty_I _) (by decide +kernel : kitB "int" "bool" = some false) ?_
              refine ⟨false, rfl, ?_⟩
              refine ite2 (fun c6 => ?_) (fun c6 => ?_)
              · skip
                exact absurd c6 (by decide)
              · skip
                refine gNot ?_
                refine gCT (fun (b : Bool) (H : Hp) => H = (upd H0 p2 (HO.tup (List.map V.ty (["list", "tuple"] : List String)))) ∧ b = ((decide ((0 : Int) ≤ apart1)) && (decide (apart1 ≤ (2 : Int))))) ?_ ?_
                · skip
                  refine gTest ?_
                  refine gChain ?_
                  refine gC ?_
                  refine gV rfl ?_
                  refine ⟨_, _, rfl, rfl, ⟨(decide ((0 : Int) ≤ apart1)), rfl, ?_⟩⟩
                  refine ite2 (fun c7 => ?_) (fun c7 => ?_)
                  · skip
                    refine gC ?_
                    exact ⟨_, _, rfl, rfl, (decide (apart1 ≤ (2 : Int))), rfl, rfl, by rw [c7, Bool.true_and]⟩
                  · exact ⟨false, rfl, ⟨rfl, by rw [ne_false c7, Bool.false_and]⟩⟩
                · rintro b3 H4 ⟨e4, rfl⟩
                  rw [e4]
                  exact ⟨G0, (Ext.refl _), S2, (by rfl)⟩
          · intro b4 H5 hJ
            obtain ⟨G2, e5, S4, rfl⟩ := hJ
            have h5 := R.up e5 h1
            have E2 := E0.trans e5
            refine ite2 (fun c8 => ?_) (fun c8 => ?_)
            · skip
              have hm3 := (if_pos c8).symm.trans hm2
              refine gRet ?_
              refine gTup' ?_
              refine gCons' ?_
              refine gV rfl ?_
              refine gNil' ?_
              have h6 : Al rInt G2 [(V.int apart1)] ([apart1] : List Int) := ⟨rfl, True.intro⟩
              refine q_tupN (K := K) S4 (by show 1 ≤ 100000; decide) h6 (fun v3 G3 H6 e6 S5 h7 => ?_)
              have h8 := R.up e6 h5
              have E3 := E2.trans e6
              cases hm3
              exact q v3 G3 H6 E3 S5 (rO_some (nn_T h7) (show R.rel (rT K rInt) G3 v3 ([apart1] : List Int) from h7))
            · skip
              have hm4 := (if_neg c8).symm.trans hm2
              refine gNext ?_
              refine gE ?_
              refine gRet ?_
              refine gC ?_
              cases hm4
              exact q V.non G2 H5 E2 S4 (rO_none : R.rel (rO (rT K rInt)) G2 V.non none)
end
end Mr

set_option Elab.async false
set_option linter.all false
set_option maxRecDepth 100000
set_option maxHeartbeats 4000000
set_option synthInstance.maxSize 4000
set_option synthInstance.maxHeartbeats 400000
namespace Mr
open PySem PySem.Spec PyProof.Rows L2 GFr
section
variable {P : Program} {w : World} {K : PySem.W.Frag} {mg : Str → Option Value} {base : Heap}
theorem sc_row_that_bars : FnScope ["left", "right", "gap", "apart", "row", "between"] ["left", "right", "gap", "apart"] (defScope s_row_that_bars) := ⟨rfl, rfl, rfl, by decide +kernel, rfl, by decide +kernel, by decide +kernel⟩
theorem ok_row_that_bars (T : Tx K mg) : FnOk P w K mg base CX0 3 (He.fAd K ("row_that_bars", none)) T.fd_row_that_bars ["left", "right", "gap", "apart"] (sp_row_that_bars K w) := by
  have G_blanks := ok_blanks (P := P) (w := w) (base := base) T
  obtain ⟨tk_GRID, c_GRID⟩ := T.c_GRID
  refine T.F_row_that_bars.ok sc_row_that_bars (fun vs H Q E h => ?_) (fun cdv A outer s H0 vs Q E hr h => ?_)
  · obtain ⟨G, O, v1, left1, v2, right1, gap1, apart1, rfl, _⟩ := h
    rfl
  · obtain ⟨G0, O, v1, left1, v2, right1, gap1, apart1, rfl, S0, h1, h2, res, hm, q⟩ := h
    refine ⟨_, PSs.nox (pss_cons (ps_cut (ps_for PassesOwn.never rfl (pi_range1 (by rfl) T.z_range (pa_cons (pe_glob (v := (V.int (4 : Int))) (by rfl) c_GRID ⟨_, rfl⟩) pa_nil)) (pg_name (i := 4) sc_row_that_bars.nd rfl (.inl rfl))
      (pss_cons (ps_set (i := 5) sc_row_that_bars.nd rfl (.inl rfl) (pe_call G_blanks (hr.mono (by decide)) (by rfl) T.g_blanks T.F_blanks.kp T.b_blanks .nil pass0 (pa_cons (pv 0) (pa_cons (pv 1) (pa_cons (pv 4) (pa_cons (pv 2) pa_nil))))))
      (pss_one (ps_if (pt_cut (PW.pt (pw_and (pt_cmpR op_isNotNon (pv 5) pe_non (nomark _)) (pw_and1 (pt_cmpR op_lt (pv 5) (pv 3) (nomark _)))))) (pss_one (ps_ret (pv 4))) pss_nil)))))
      (pss_one (ps_ret pe_non))), ?_⟩
    have E0 := Ext.refl G0
    have hm0 : (Option.bind (rngM (4 : Int)) fun xs1 =>
  Option.bind (forL (m_row_that_bars_b1 left1 right1 gap1 apart1) xs1 ()) fun res => match res with
  | Fl.rt r => some r
  | Fl.nx _ => some (none : (Option Int))) = some res := hm
    obtain ⟨xs1, hq1, hm1⟩ := bindS hm0
    obtain ⟨res1, hl1, hm2⟩ := bindS hm1
    refine gS_CS (fun (σ : L2.St) (H : Hp) => ∃ s : Unit, res1 = Fl.nx s ∧ ∃ (G : Hp) (y1 : Option V) (y2 : Option V), Ext G0 G ∧ Sub G (O) H ∧ σ = [some v1, some v2, some (V.int gap1), some (V.int apart1), y1, y2]) ?_ ?_
    · skip
      refine gFor ?_
      refine gIR ?_
      refine gCons' ?_
      refine gC ?_
      refine gNil' ?_
      refine lp_R hq1 hl1 (fun (s : Unit) (σ : L2.St) (H : Hp) => ∃ (G : Hp) (y1 : Option V) (y2 : Option V), Ext G0 G ∧ Sub G (O) H ∧ σ = [some v1, some v2, some (V.int gap1), some (V.int apart1), y1, y2]) ⟨G0, _, _, (Ext.refl _), S0, rfl⟩ ?_ ?_
      · intro i1 x1 s1 b1 hb1 hr1 σ1 H1 hI1
        obtain ⟨G1, y3, y4, e1, S1, rfl⟩ := hI1
        have h4 := R.up e1 h1
        have h5 := R.up e1 h2
        have E1 := E0.trans e1
        have hm3 : (Option.bind (m_blanks left1 right1 x1 gap1) fun r1 =>   Option.bind (if (!r1.isNone) then (Option.bind (r1) fun j1 =>   some (decide (j1 < apart1))) else some false) fun x2 =>   if x2 then (some (Bf.rt (some x1)))   else (some (Bf.go ()))) = some b1 := hb1
        refine gS_AsgN ?_
        refine gCall ?_
        refine gCons' ?_
        refine gV rfl ?_
        refine gCons' ?_
        refine gV rfl ?_
        refine gCons' ?_
        refine gV rfl ?_
        refine gCons' ?_
        refine gV rfl ?_
        refine gNil' ?_
        obtain ⟨r1, hq2, hm4⟩ := bindS hm3
        refine ⟨G1, (O), v1, left1, v2, right1, x1, gap1, rfl, S1, h4, h5, r1, hq2, fun v4 G2 H2 e2 S2 h6 => ?_⟩
        have h7 := R.up e2 h4
        have h8 := R.up e2 h5
        have E2 := E1.trans e2
        refine gIfS ?_
        obtain ⟨x2, hq4, hm6⟩ := bindS hm4
        refine gCT (fun (b : Bool) (H : Hp) => ∃ (G : Hp), Ext G2 G ∧ Sub G (O) H ∧ b = x2) ?_ ?_
        · skip
          refine gAnd ?_
          refine gTest ?_
          refine gOp ?_
          refine gV rfl ?_
          refine gC ?_
          refine q_isNotNon h6 ?_
          refine ⟨(!r1.isNone), rfl, ?_⟩
          refine ite2 (fun c1 => ?_) (fun c1 => ?_)
          · skip
            have hm7 := (if_pos c1).symm.trans hq4
            refine gTest ?_
            refine gOp ?_
            refine gV rfl ?_
            refine gV rfl ?_
            obtain ⟨j2, hq5, hm8⟩ := bindS hm7
            have h10 := rO_get h6 hq5
            obtain rfl := (show v4 = (V.int j2) from h10)
            refine ⟨_, _, rfl, rfl, ?_⟩
            refine ⟨(decide (j2 < apart1)), rfl, ?_⟩
            cases hm8
            exact ⟨G2, (Ext.refl _), S2, rfl⟩
          · skip
            have hm9 := (if_neg c1).symm.trans hq4
            cases hm9
            exact ⟨G2, (Ext.refl _), S2, rfl⟩
        · intro b2 H3 hJ
          obtain ⟨G3, e3, S3, rfl⟩ := hJ
          have h11 := R.up e3 h7
          have h12 := R.up e3 h8
          have h13 := R.up e3 h6
          have E3 := E2.trans e3
          refine ite2 (fun c2 => ?_) (fun c2 => ?_)
          · skip
            have hm10 := (if_pos c2).symm.trans hm6
            refine gRet ?_
            refine gV rfl ?_
            cases hm10
            have hr2 := Option.some.inj (show some (Fl.rt _) = some res1 from hr1)
            subst hr2
            dsimp only at hm2
            cases hm2
            exact q (V.int x1) G3 H3 E3 S3 (rO_some (by intro z; cases z) (show R.rel rInt G3 (V.int x1) x1 from rfl))
          · skip
            have hm11 := (if_neg c2).symm.trans hm6
            refine gNext ?_
            cases hm11
            exact ⟨_, ⟨G3, _, _, ((e1.trans e2).trans e3), S3, rfl⟩, hr1⟩
      · intro s σ H h1 h2
        obtain ⟨G, k1, k2, ie, irest⟩ := h2
        exact ⟨s, h1, G, k1, k2, (ie), irest⟩
    · intro σ2 H4 hJ1
      obtain ⟨s2, hres1, hJ2⟩ := hJ1
      subst hres1
      dsimp only at hm2
      obtain ⟨G4, y5, y6, e4, S4, rfl⟩ := hJ2
      have h14 := R.up e4 h1
      have h15 := R.up e4 h2
      have E4 := E0.trans e4
      refine gRet ?_
      refine gC ?_
      cases hm2
      exact q V.non G4 H4 E4 S4 (rO_none : R.rel (rO rInt) G4 V.non none)
end
end Mr

set_option Elab.async false
set_option linter.all false
set_option maxRecDepth 100000
set_option maxHeartbeats 4000000
set_option synthInstance.maxSize 4000
set_option synthInstance.maxHeartbeats 400000
namespace Mr
open PySem PySem.Spec PyProof.Rows L2 GFr
section
variable {P : Program} {w : World} {K : PySem.W.Frag} {mg : Str → Option Value} {base : Heap}
theorem sc_Face_gap_and_bar : FnScope ["self", "left", "right", "gap", "bar", "row"] ["self", "left", "right"] (defScope s_Face_gap_and_bar) := ⟨rfl, rfl, rfl, by decide +kernel, rfl, by decide +kernel, by decide +kernel⟩
theorem ok_Face_gap_and_bar (T : Tx K mg) : FnOk P w K mg base CX0 4 (He.fAd K ("Face", some "gap_and_bar")) T.fd_Face_gap_and_bar ["self", "left", "right"] (sp_Face_gap_and_bar K w) := by
  have G_row_that_bars := ok_row_that_bars (P := P) (w := w) (base := base) T
  refine T.F_Face_gap_and_bar.ok sc_Face_gap_and_bar (fun vs H Q E h => ?_) (fun cdv A outer s H0 vs Q E hr h => ?_)
  · obtain ⟨G, O, v1, self1, v2, left1, v3, right1, rfl, _⟩ := h
    rfl
  · obtain ⟨G0, O, v1, self1, v2, left1, v3, right1, rfl, S0, h1, h2, h3, res, hm, q⟩ := h
    refine ⟨_, PSs.nox (pss_cons (ps_asg (pe_tup (pa_cons pe_int (pa_cons pe_non pa_nil))) (pg_tup rfl (pgs_cons (pg_name (i := 3) sc_Face_gap_and_bar.nd rfl (.inl rfl)) (pgs_cons (pg_name (i := 4) sc_Face_gap_and_bar.nd rfl (.inl rfl)) pgs_nil))))
      (pss_cons (ps_cut (ps_whileW PassesOwn.never (ptw_cmp op_isNotNon (pew_named (i := 5) sc_Face_gap_and_bar.nd rfl (.inl rfl) (pew_of (pe_call G_row_that_bars (hr.mono (by decide)) (by rfl) T.g_row_that_bars T.F_row_that_bars.kp T.b_row_that_bars .nil pass0 (pa_cons (pv 1) (pa_cons (pv 2) (pa_cons (pv 3) (pa_cons (pe_fld (pv 0) rfl) pa_nil))))))) pe_non (nomark _))
      (pss_one (ps_par (i := 3) (j := 4) (by rfl) sc_Face_gap_and_bar.nd rfl rfl (by decide) rfl rfl (pa_cons (pe_op op_add (pv 3) pe_int) (pa_cons (pv 5) pa_nil)) (by rfl))) pss_nil))
      (pss_one (ps_ret (pe_tup (pa_cons (pv 3) (pa_cons (pv 4) pa_nil))))))), ?_⟩
    have E0 := Ext.refl G0
    have hm0 : (Option.bind (whL (m_Face_gap_and_bar_b1 self1 left1 right1) 1000000 ((0 : Int), (none : (Option Int)))) fun res => match res with
  | Fl.rt r => some r
  | Fl.nx (gap1, bar1) => some (gap1, bar1)) = some res := hm
    refine gS_Asg ?_
    refine gTup' ?_
    refine gCons' ?_
    refine gC ?_
    refine gCons' ?_
    refine gC ?_
    refine gNil' ?_
    refine q_tup2 (K := K) S0 (show R.rel rInt G0 (V.int (0 : Int)) (0 : Int) from rfl) (show R.rel rNon G0 V.non () from rfl) (fun v4 G1 H1 e1 S1 h4 => ?_)
    have h5 := R.up e1 h1
    have h6 := R.up e1 h2
    have h7 := R.up e1 h3
    have E1 := E0.trans e1
    refine q_gt2 S1 h4 (fun v5 v6 h8 h9 => ?_)
    obtain rfl := (show v5 = (V.int (0 : Int)) from h8)
    obtain rfl := (show v6 = V.non from h9)
    obtain ⟨res1, hl1, hm1⟩ := bindS hm0
    refine gS_CS (fun (σ : L2.St) (H : Hp) => ∃ s : Int × (Option Int), res1 = Fl.nx s ∧ ∃ (G : Hp) (v7 : V) (y1 : Option V), Ext G1 G ∧ Sub G (O) H ∧ σ = [some v1, some v2, some v3, some (V.int s.1), some v7, y1] ∧ R.rel (rO rInt) G v7 s.2) ?_ ?_
    · skip
      refine lp_WW hl1 (fun (s : Int × (Option Int)) (σ : L2.St) (H : Hp) => ∃ (G : Hp) (v7 : V) (y1 : Option V), Ext G1 G ∧ Sub G (O) H ∧ σ = [some v1, some v2, some v3, some (V.int s.1), some v7, y1] ∧ R.rel (rO rInt) G v7 s.2) ⟨G1, V.non, _, (Ext.refl _), S1, rfl, (rO_none : R.rel (rO rInt) G1 V.non none)⟩ ?_
      intro i1 s1 b1 hb1 hr1 σ1 H2 hI1
      obtain ⟨gap2, bar2⟩ := s1
      obtain ⟨G2, v8, y2, e2, S2, rfl, h10⟩ := hI1
      have h11 := R.up e2 h5
      have h12 := R.up e2 h6
      have h13 := R.up e2 h7
      have E2 := E1.trans e2
      have hm2 : (Option.bind (m_row_that_bars left1 right1 gap2 self1) fun r1 =>   if (!r1.isNone) then (some (Bf.go ((gap2 + (1 : Int)), r1)))   else (some (Bf.bk (gap2, bar2)))) = some b1 := hb1
      refine gWCmp ?_
      refine gWNm ?_
      refine gCall ?_
      refine gCons' ?_
      refine gV rfl ?_
      refine gCons' ?_
      refine gV rfl ?_
      refine gCons' ?_
      refine gV rfl ?_
      refine gCons' ?_
      refine gFld ?_
      refine gV rfl ?_
      obtain ⟨fs1, v9, hI2, hl2, h14⟩ := (id h11)
      obtain rfl := (show v9 = (V.int self1) from h14)
      obtain ⟨a1, d1, ev1, ha1⟩ := ins_prop S2 hI2
      refine ⟨a1, _, d1, _, _, ev1, ha1, T.cl_Face, T.n_Face_apart, hl2, ?_⟩
      refine gNil' ?_
      obtain ⟨r1, hq1, hm3⟩ := bindS hm2
      refine ⟨G2, (O), v2, left1, v3, right1, gap2, self1, rfl, S2, h12, h13, r1, hq1, fun v10 G3 H3 e3 S3 h15 => ?_⟩
      have h16 := R.up e3 h11
      have h17 := R.up e3 h12
      have h18 := R.up e3 h13
      have h19 := R.up e3 h10
      have E3 := E2.trans e3
      refine gC ?_
      refine q_isNotNon h15 ?_
      refine ⟨(!r1.isNone), rfl, ?_⟩
      refine ite2 (fun c1 => ?_) (fun c1 => ?_)
      · skip
        have hm4 := (if_pos c1).symm.trans hm3
        refine whGo ?_
        refine gPar ?_
        refine gCons' ?_
        refine gOp ?_
        refine gV rfl ?_
        refine gC ?_
        refine ⟨_, _, rfl, rfl, ?_⟩
        refine gCons' ?_
        refine gV rfl ?_
        refine gNil' ?_
        refine ⟨_, _, rfl, ?_⟩
        cases hm4
        exact ⟨((gap2 + (1 : Int)), r1), ⟨G3, v10, _, (e2.trans e3), S3, rfl, h15⟩, hr1⟩
      · skip
        have hm5 := (if_neg c1).symm.trans hm3
        cases hm5
        exact ⟨_, (Option.some.inj hr1).symm, ⟨G3, v8, _, (e2.trans e3), S3, rfl, h19⟩⟩
    · intro σ2 H4 hJ1
      obtain ⟨s2, hres1, hJ2⟩ := hJ1
      subst hres1
      obtain ⟨gap1, bar1⟩ := s2
      dsimp only at hm1
      obtain ⟨G4, v11, y3, e4, S4, rfl, h20⟩ := hJ2
      have h21 := R.up e4 h5
      have h22 := R.up e4 h6
      have h23 := R.up e4 h7
      have E4 := E1.trans e4
      refine gRet ?_
      refine gTup' ?_
      refine gCons' ?_
      refine gV rfl ?_
      refine gCons' ?_
      refine gV rfl ?_
      refine gNil' ?_
      refine q_tup2 (K := K) S4 (show R.rel rInt G4 (V.int gap1) gap1 from rfl) (show R.rel (rO rInt) G4 v11 bar1 from h20) (fun v12 G5 H5 e5 S5 h24 => ?_)
      have h25 := R.up e5 h21
      have h26 := R.up e5 h22
      have h27 := R.up e5 h23
      have h28 := R.up e5 h20
      have E5 := E4.trans e5
      cases hm1
      exact q v12 G5 H5 E5 S5 h24
end
end Mr

set_option Elab.async false
set_option linter.all false
set_option maxRecDepth 100000
set_option maxHeartbeats 4000000
set_option synthInstance.maxSize 4000
set_option synthInstance.maxHeartbeats 400000
namespace Mr
open PySem PySem.Spec PyProof.Rows L2 GFr
section
variable {P : Program} {w : World} {K : PySem.W.Frag} {mg : Str → Option Value} {base : Heap}
theorem sc_Face___init__ : FnScope ["self", "outlines", "apart", "wrong", "found", "letter", "thing", "ink", "left", "before", "right", "behind"] ["self", "outlines", "apart"] (defScope s_Face___init__) := ⟨rfl, rfl, rfl, by decide +kernel, rfl, by decide +kernel, by decide +kernel⟩
theorem ok_Face___init__ (T : Tx K mg) : FnOk P w K mg base CX0 5 (He.ma K (He.ga K "Face") "__init__") T.fd_Face___init__ ["self", "outlines", "apart"] (sp_Face___init__ K w) := by
  have G_Face_gap_and_bar := ok_Face_gap_and_bar (P := P) (w := w) (base := base) T
  have G_bad_count := ok_bad_count (P := P) (w := w) (base := base) T
  have G_ink_of := ok_ink_of (P := P) (w := w) (base := base) T
  have G_outline_of := ok_outline_of (P := P) (w := w) (base := base) T
  have G_step_of := ok_step_of (P := P) (w := w) (base := base) T
  obtain ⟨tk_LETTERS, c_LETTERS⟩ := T.c_LETTERS
  refine T.F_Face___init__.ok sc_Face___init__ (fun vs H Q E h => ?_) (fun cdv A outer s H0 vs Q E hr h => ?_)
  · obtain ⟨G, O, p1, d1, v1, outlines1, apart1, rfl, _⟩ := h
    rfl
  · obtain ⟨G0, O, p1, d1, v1, outlines1, apart1, rfl, S0, h1, res, hm, q⟩ := h
    refine ⟨_, PSs.nox (pss_cons (ps_set (i := 3) sc_Face___init__.nd rfl (.inl rfl) (pe_call G_bad_count (hr.mono (by decide)) (by rfl) T.g_bad_count T.F_bad_count.kp T.b_bad_count .nil pass0 (pa_cons (pv 1) (pa_cons (pv 2) pa_nil))))
      (pss_cons (ps_if (pt_cmpR op_isNotNon (pv 3) pe_non (nomark _)) (pss_one ps_never) pss_nil)
      (pss_cons (ps_set (i := 4) sc_Face___init__.nd rfl (.inl rfl) (pe_lst pa_nil))
      (pss_cons (ps_cut (ps_for PassesOwn.never rfl (pi_zipG (by rfl) T.z_zip (pa_cons (pe_glob (v := (V.str (e_T ([97, 98, 99, 100] : Wrd)))) (by rfl) c_LETTERS ⟨_, rfl⟩) (pa_cons (pv 1) pa_nil))) (pg_tup rfl (pgs_cons (pg_name (i := 5) sc_Face___init__.nd rfl (.inl rfl)) (pgs_cons (pg_name (i := 6) sc_Face___init__.nd rfl (.inl rfl)) pgs_nil)))
      (pss_cons (ps_set (i := 7) sc_Face___init__.nd rfl (.inl rfl) (pe_call G_ink_of (hr.mono (by decide)) (by rfl) T.g_ink_of T.F_ink_of.kp T.b_ink_of .nil pass0 (pa_cons (pe_call G_outline_of (hr.mono (by decide)) (by rfl) T.g_outline_of T.F_outline_of.kp T.b_outline_of .nil pass0 (pa_cons (pv 5) (pa_cons (pv 6) pa_nil))) pa_nil)))
      (pss_cons (ps_if (pt_cmpR op_eqI (pe_call G_step_of (hr.mono (by decide)) (by rfl) T.g_step_of T.F_step_of.kp T.b_step_of .nil pass0 (pa_cons (pv 7) pa_nil)) pe_int (nomark _)) (pss_one ps_never) pss_nil)
      (pss_one (ps_expr (pe_bm PySem.F.plainAttrs_list PySem.F.slot_list_append PySem.F.type_list_append mt_append (pv 4) (pa_cons (pv 7) pa_nil))))))))
      (pss_cons (ps_fld (pv 0) (pv 2) rfl)
      (pss_cons (ps_fld (pv 0) (pe_callTy (r := rTupOf K) call_tupOf (by rfl) T.z_tuple boot_tuple (pa_cons (pv 4) pa_nil)) rfl)
      (pss_cons (ps_fld (pv 0) pe_dnewK rfl)
      (pss_one (ps_cut (ps_for PassesOwn.never rfl (pi_zipG (by rfl) T.z_zip (pa_cons (pe_glob (v := (V.str (e_T ([97, 98, 99, 100] : Wrd)))) (by rfl) c_LETTERS ⟨_, rfl⟩) (pa_cons (pv 4) pa_nil))) (pg_tup rfl (pgs_cons (pg_name (i := 8) sc_Face___init__.nd rfl (.inl rfl)) (pgs_cons (pg_name (i := 9) sc_Face___init__.nd rfl (.inl rfl)) pgs_nil)))
      (pss_one (ps_cut (ps_for PassesOwn.never rfl (pi_zipG (by rfl) T.z_zip (pa_cons (pe_glob (v := (V.str (e_T ([97, 98, 99, 100] : Wrd)))) (by rfl) c_LETTERS ⟨_, rfl⟩) (pa_cons (pv 4) pa_nil))) (pg_tup rfl (pgs_cons (pg_name (i := 10) sc_Face___init__.nd rfl (.inl rfl)) (pgs_cons (pg_name (i := 11) sc_Face___init__.nd rfl (.inl rfl)) pgs_nil)))
      (pss_one (ps_dput (Nat.lt_trans (Nat.add_lt_add_left (show 1 < 64 by decide) _) hr.units) (pe_fld (pv 0) rfl) (pe_op op_addT (pv 8) (pv 10)) (pe_meth (pv 0) T.cl_Face T.m_Face_gap_and_bar G_Face_gap_and_bar (hr.mono (by decide)) T.b_Face_gap_and_bar .nil pass0 (pa_cons (pv 9) (pa_cons (pv 11) pa_nil))) rfl))))))))))))))), ?_⟩
    have E0 := Ext.refl G0
    have hm0 : (Option.bind (m_bad_count outlines1 apart1) fun r1 =>
  if (!r1.isNone) then (none)
  else (Option.bind (forL (m_Face___init___b1) (List.zip (sgT ([97, 98, 99, 100] : Wrd)) outlines1) ([] : List (List Ink))) fun res => match res with
  | Fl.rt r => some r
  | Fl.nx found1 => Option.bind (folM (m_Face___init___b2 apart1 found1) (List.zip (sgT ([97, 98, 99, 100] : Wrd)) found1) ([] : (List (Wrd × (Int × (Option Int)))))) fun d_gaps_and_bars1 =>
  some (Face.mk apart1 found1 d_gaps_and_bars1))) = some res := hm
    refine gS_AsgN ?_
    refine gCall ?_
    refine gCons' ?_
    refine gV rfl ?_
    refine gCons' ?_
    refine gV rfl ?_
    refine gNil' ?_
    obtain ⟨r1, hq1, hm1⟩ := bindS hm0
    refine ⟨G0, ((p1, HO.ins (He.ga K "Face") d1 []) :: O), v1, outlines1, apart1, rfl, S0, h1, r1, hq1, fun v2 G1 H1 e1 S1 h2 => ?_⟩
    have h3 := R.up e1 h1
    have E1 := E0.trans e1
    refine gS_IfS ?_
    refine gTest ?_
    refine gOp ?_
    refine gV rfl ?_
    refine gC ?_
    refine q_isNotNon h2 ?_
    refine ⟨(!r1.isNone), rfl, ?_⟩
    refine ite2 (fun c1 => ?_) (fun c1 => ?_)
    · skip
      have hm2 := (if_pos c1).symm.trans hm1
      cases hm2
    · skip
      have hm3 := (if_neg c1).symm.trans hm1
      refine gNext ?_
      refine gE ?_
      refine gS_AsgN ?_
      refine gLst ?_
      refine gNil' ?_
      have h4 : Al (rT K (rEn e_Ink)) G1 [] [] := True.intro
      refine q_lst S1 h4 (by show 0 ≤ 100000; decide) (fun a1 H2 w1 S2 h5 => ?_)
      obtain ⟨res1, hl1, hm4⟩ := bindS hm3
      refine gS_CS (fun (σ : L2.St) (H : Hp) => ∃ s : (List (List Ink)), res1 = Fl.nx s ∧ ∃ (G : Hp) (w2 : List V) (y1 : Option V) (y2 : Option V) (y3 : Option V) (y4 : Option V) (y5 : Option V) (y6 : Option V) (y7 : Option V), Ext G1 G ∧ Sub G ((a1, HO.lst w2) :: (p1, HO.ins (He.ga K "Face") d1 []) :: O) H ∧ σ = [some (V.ref p1), some v1, some (V.int apart1), some v2, some (V.ref a1), y1, y2, y3, y4, y5, y6, y7] ∧ Al (rT K (rEn e_Ink)) G w2 s) ?_ ?_
      · skip
        refine gFor ?_
        refine gIZp ?_
        refine gCons' ?_
        refine gC ?_
        refine gCons' ?_
        refine gV rfl ?_
        refine gNil' ?_
        refine lp_Zp S2 (SrR.ofTx ([97, 98, 99, 100] : Wrd)) (SrR.ofL (rM_L (K := K) h3)) hl1 (fun (s : (List (List Ink))) (σ : L2.St) (H : Hp) => ∃ (G : Hp) (w2 : List V) (y1 : Option V) (y2 : Option V) (y3 : Option V) (y4 : Option V) (y5 : Option V) (y6 : Option V) (y7 : Option V), Ext G1 G ∧ Sub G ((a1, HO.lst w2) :: (p1, HO.ins (He.ga K "Face") d1 []) :: O) H ∧ σ = [some (V.ref p1), some v1, some (V.int apart1), some v2, some (V.ref a1), y1, y2, y3, y4, y5, y6, y7] ∧ Al (rT K (rEn e_Ink)) G w2 s) ⟨G1, w1, _, _, _, _, _, _, _, (Ext.refl _), S2, rfl, h5⟩ ?_ ?_ ?_
        · intro s σ H hI
          obtain ⟨G, k1, k2, k3, k4, k5, k6, k7, k8, ie, iS, _⟩ := hI
          exact ie.trans iS.ext
        · intro i1 x1 x2 found2 b1 hb1 hr1 v3 v4 σ1 H3 H4 hI1 hS1 h6 h7
          obtain ⟨G2, w3, y8, y9, y10, y11, y12, y13, y14, e2, S3, rfl, h8⟩ := hI1
          have h9 := R.up e2 h3
          have h10 := R.up e2 h2
          have h11 := R.up e2 (rM_L (K := K) h3)
          have E2 := E1.trans e2
          have S4 := hS1 _ _ S3
          obtain rfl := (show v3 = (V.str (e_T x1)) from h6)
          have h12 := R.up e2 h7
          have hm5 : (Option.bind (m_outline_of x1 x2) fun r2 =>   Option.bind (m_ink_of r2) fun r3 =>   Option.bind (m_step_of r3) fun r4 =>   if (decide (r4 = (0 : Int))) then (none)   else (Option.bind (appM found2 r3) fun found3 =>   some (Bf.go found3))) = some b1 := hb1
          refine gS_AsgN ?_
          refine gCall ?_
          refine gCons' ?_
          refine gCall ?_
          refine gCons' ?_
          refine gV rfl ?_
          refine gCons' ?_
          refine gV rfl ?_
          refine gNil' ?_
          obtain ⟨r2, hq2, hm6⟩ := bindS hm5
          refine ⟨G2, ((a1, HO.lst w3) :: (p1, HO.ins (He.ga K "Face") d1 []) :: O), x1, v4, x2, rfl, S4, h12, r2, hq2, fun v5 G3 H5 e3 S5 h13 => ?_⟩
          have h14 := R.up e3 h9
          have h15 := R.up e3 h10
          have h16 := Al.up e3 h8
          have h17 := R.up e3 h12
          have h18 := R.up e3 h11
          have E3 := E2.trans e3
          refine gNil' ?_
          obtain ⟨r3, hq3, hm7⟩ := bindS hm6
          refine ⟨G3, ((a1, HO.lst w3) :: (p1, HO.ins (He.ga K "Face") d1 []) :: O), v5, r2, rfl, S5, ((cv_TQ (K := K) (fun _ _ => (cv_TQ (K := K) (fun _ _ => (fun h => h))))) h13), r3, hq3, fun v6 G4 H6 e4 S6 h19 => ?_⟩
          have h20 := R.up e4 h14
          have h21 := R.up e4 h15
          have h22 := Al.up e4 h16
          have h23 := R.up e4 h17
          have h24 := R.up e4 h18
          have E4 := E3.trans e4
          refine gS_IfS ?_
          refine gTest ?_
          refine gOp ?_
          refine gCall ?_
          refine gCons' ?_
          refine gV rfl ?_
          refine gNil' ?_
          obtain ⟨r4, hq4, hm8⟩ := bindS hm7
          refine ⟨G4, ((a1, HO.lst w3) :: (p1, HO.ins (He.ga K "Face") d1 []) :: O), v6, r3, rfl, S6, h19, r4, hq4, fun G5 H7 e5 S7 => ?_⟩
          have h25 := R.up e5 h20
          have h26 := R.up e5 h21
          have h27 := Al.up e5 h22
          have h28 := R.up e5 h23
          have h29 := R.up e5 h19
          have h30 := R.up e5 h24
          have E5 := E4.trans e5
          refine gC ?_
          refine ⟨_, _, rfl, rfl, ?_⟩
          refine ⟨(decide (r4 = (0 : Int))), rfl, ?_⟩
          refine ite2 (fun c2 => ?_) (fun c2 => ?_)
          · skip
            have hm9 := (if_pos c2).symm.trans hm8
            cases hm9
          · skip
            have hm10 := (if_neg c2).symm.trans hm8
            refine gNext ?_
            refine gE ?_
            refine gDrop ?_
            refine gBM ?_
            refine gV rfl ?_
            refine ⟨.inl ⟨rfl, _, .inl (.inl S7.head)⟩, ?_⟩
            refine gCons' ?_
            refine gV rfl ?_
            refine gNil' ?_
            obtain ⟨found3, hq5, hm11⟩ := bindS hm10
            refine q_app S7 h27 (show R.rel (rT K (rEn e_Ink)) G5 v6 r3 from h29) hq5 (fun H8 w4 S8 h31 => ?_)
            cases hm11
            exact ⟨_, ⟨G5, w4, _, _, _, _, _, _, _, (((e2.trans e3).trans e4).trans e5), S8, rfl, h31⟩, hr1⟩
        · intro s σ H h1 h2
          obtain ⟨G, k1, k2, k3, k4, k5, k6, k7, k8, ie, irest⟩ := h2
          exact ⟨s, h1, G, k1, k2, k3, k4, k5, k6, k7, k8, (ie), irest⟩
      · intro σ2 H9 hJ1
        obtain ⟨found1, hres1, hJ2⟩ := hJ1
        subst hres1
        dsimp only at hm4
        obtain ⟨G6, w5, y15, y16, y17, y18, y19, y20, y21, e6, S9, rfl, h32⟩ := hJ2
        have h33 := R.up e6 h3
        have h34 := R.up e6 h2
        have E6 := E1.trans e6
        refine gS_SFld ?_
        refine gV rfl ?_
        refine gV rfl ?_
        have S10 : Sub G6 ((p1, HO.ins (He.ga K "Face") d1 []) :: (a1, HO.lst w5) :: O) H9 := S9.front 1 rfl rfl
        refine ⟨p1, _, d1, _, rfl, S10.head, T.cl_Face, T.n_Face_apart, (show 0 < 1000 by decide), ?_⟩
        have S11 : Sub G6 ((p1, HO.ins (He.ga K "Face") d1 [("apart", (V.int apart1))]) :: (a1, HO.lst w5) :: O) _ := Sub.wr (o' := HO.ins (He.ga K "Face") d1 (putF "apart" (V.int apart1) [])) S10
        refine gS_SFld ?_
        refine gCB ?_
        refine gCons' ?_
        refine gV rfl ?_
        refine gNil' ?_
        have S12 : Sub G6 ((a1, HO.lst w5) :: (p1, HO.ins (He.ga K "Face") d1 [("apart", (V.int apart1))]) :: O) _ := S11.front 1 rfl rfl
        refine q_tupO S12 h32 (fun v7 G7 H10 e7 S13 h35 => ?_)
        have h36 := R.up e7 h33
        have h37 := R.up e7 h34
        have h38 := Al.up e7 h32
        have E7 := E6.trans e7
        refine gV rfl ?_
        have S14 : Sub G7 ((p1, HO.ins (He.ga K "Face") d1 [("apart", (V.int apart1))]) :: (a1, HO.lst w5) :: O) H10 := S13.front 1 rfl rfl
        refine ⟨p1, _, d1, _, rfl, S14.head, T.cl_Face, T.n_Face_inks, (show 1 < 1000 by decide), ?_⟩
        have S15 : Sub G7 ((p1, HO.ins (He.ga K "Face") d1 [("apart", (V.int apart1)), ("inks", v7)]) :: (a1, HO.lst w5) :: O) _ := Sub.wr (o' := HO.ins (He.ga K "Face") d1 (putF "inks" v7 [("apart", (V.int apart1))])) S14
        refine gS_SFld ?_
        refine gDNew (fun p2 hp1 => ?_)
        have S16 := S15.newOwn (o := HO.dK []) hp1
        have h39 : AlD (rP2 K rInt (rO rInt)) G7 [] [] := True.intro
        refine gV rfl ?_
        have S17 : Sub G7 ((p1, HO.ins (He.ga K "Face") d1 [("apart", (V.int apart1)), ("inks", v7)]) :: (p2, HO.dK []) :: (a1, HO.lst w5) :: O) (upd _ p2 (HO.dK [])) := S16.front 1 rfl rfl
        refine ⟨p1, _, d1, _, rfl, S17.head, T.cl_Face, T.n_Face_gaps_and_bars, (show 2 < 1000 by decide), ?_⟩
        have S18 : Sub G7 ((p1, HO.ins (He.ga K "Face") d1 [("apart", (V.int apart1)), ("inks", v7), ("gaps_and_bars", (V.ref p2))]) :: (p2, HO.dK []) :: (a1, HO.lst w5) :: O) _ := Sub.wr (o' := HO.ins (He.ga K "Face") d1 (putF "gaps_and_bars" (V.ref p2) [("apart", (V.int apart1)), ("inks", v7)])) S17
        obtain ⟨G8, e8, S19, h40⟩ := frz_I S18
        have h41 := R.up e8 h35
        have h42 := R.up e8 h36
        have h43 := R.up e8 h37
        have h44 := Al.up e8 h38
        have h45 := AlD.up e8 h39
        have E8 := E7.trans e8
        have S20 : Sub G8 ((a1, HO.lst w5) :: (p2, HO.dK []) :: O) _ := S19.front 1 rfl rfl
        obtain ⟨G9, e9, S21, h46⟩ := frz_M S20 h44
        have h47 := R.up e9 h41
        have h48 := InsAt.up e9 h40
        have h49 := R.up e9 h42
        have h50 := R.up e9 h43
        have h51 := AlD.up e9 h45
        have E9 := E8.trans e9
        obtain ⟨d_gaps_and_bars1, hl2, hm12⟩ := bindS hm4
        refine gCS (fun (σ : L2.St) (H : Hp) => ∃ (G : Hp) (y22 : Option V) (y23 : Option V) (y24 : Option V) (y25 : Option V) (y26 : Option V) (y27 : Option V) (y28 : Option V) (ks1 : List (L2.Key × V)), Ext G9 G ∧ Sub G ((p2, HO.dK ks1) :: O) H ∧ σ = [some (V.ref p1), some v1, some (V.int apart1), some v2, some (V.ref a1), y22, y23, y24, y25, y26, y27, y28] ∧ AlD (rP2 K rInt (rO rInt)) G ks1 d_gaps_and_bars1) ?_ ?_
        · skip
          refine gFor ?_
          refine gIZp ?_
          refine gCons' ?_
          refine gC ?_
          refine gCons' ?_
          refine gV rfl ?_
          refine gNil' ?_
          refine lp_Zp S21 (SrR.ofTx ([97, 98, 99, 100] : Wrd)) (SrR.ofL (rM_L (K := K) h46)) (fol_for Empty hl2) (fun (s : (List (Wrd × (Int × (Option Int))))) (σ : L2.St) (H : Hp) => ∃ (G : Hp) (y22 : Option V) (y23 : Option V) (y24 : Option V) (y25 : Option V) (y26 : Option V) (y27 : Option V) (y28 : Option V) (ks1 : List (L2.Key × V)), Ext G9 G ∧ Sub G ((p2, HO.dK ks1) :: O) H ∧ σ = [some (V.ref p1), some v1, some (V.int apart1), some v2, some (V.ref a1), y22, y23, y24, y25, y26, y27, y28] ∧ AlD (rP2 K rInt (rO rInt)) G ks1 s) ⟨G9, _, _, _, _, _, _, _, ([] : List (L2.Key × V)), (Ext.refl _), S21, rfl, h51⟩ ?_ ?_ ?_
          · intro s σ H hI
            obtain ⟨G, k9, k10, k11, k12, k13, k14, k15, k16, ie, iS, _⟩ := hI
            exact ie.trans iS.ext
          · intro i2 x3 x4 d_gaps_and_bars2 b2 hb2 hr2 v8 v9 σ3 H11 H12 hI2 hS2 h52 h53
            obtain ⟨s3, hb3, hb4⟩ := goF_some hb2
            subst hb4
            obtain ⟨G10, y29, y30, y31, y32, y33, y34, y35, ks2, e10, S22, rfl, h54⟩ := hI2
            have h55 := InsAt.up e10 h48
            have h56 := R.up e10 h47
            have h57 := R.up e10 h49
            have h58 := R.up e10 h50
            have h59 := R.up e10 h46
            have h60 := R.up e10 (rM_L (K := K) h46)
            have E10 := E9.trans e10
            have S23 := hS2 _ _ S22
            obtain rfl := (show v8 = (V.str (e_T x3)) from h52)
            have h61 := R.up e10 h53
            have hm13 : (Option.bind (folM (m_Face___init___b3 apart1 x3 x4) (List.zip (sgT ([97, 98, 99, 100] : Wrd)) found1) d_gaps_and_bars2) fun d_gaps_and_bars3 =>   some d_gaps_and_bars3) = some s3 := hb3
            obtain ⟨d_gaps_and_bars3, hl3, hm14⟩ := bindS hm13
            refine gCS (fun (σ : L2.St) (H : Hp) => ∃ (G : Hp) (y36 : Option V) (y37 : Option V) (y38 : Option V) (y39 : Option V) (y40 : Option V) (ks3 : List (L2.Key × V)), Ext G10 G ∧ Sub G ((p2, HO.dK ks3) :: O) H ∧ σ = [some (V.ref p1), some v1, some (V.int apart1), some v2, some (V.ref a1), y36, y37, y38, some (V.str (e_T x3)), some v9, y39, y40] ∧ AlD (rP2 K rInt (rO rInt)) G ks3 d_gaps_and_bars3) ?_ ?_
            · skip
              refine gFor ?_
              refine gIZp ?_
              refine gCons' ?_
              refine gC ?_
              refine gCons' ?_
              refine gV rfl ?_
              refine gNil' ?_
              refine lp_Zp S23 (SrR.ofTx ([97, 98, 99, 100] : Wrd)) (SrR.ofL (rM_L (K := K) h59)) (fol_for Empty hl3) (fun (s : (List (Wrd × (Int × (Option Int))))) (σ : L2.St) (H : Hp) => ∃ (G : Hp) (y36 : Option V) (y37 : Option V) (y38 : Option V) (y39 : Option V) (y40 : Option V) (ks3 : List (L2.Key × V)), Ext G10 G ∧ Sub G ((p2, HO.dK ks3) :: O) H ∧ σ = [some (V.ref p1), some v1, some (V.int apart1), some v2, some (V.ref a1), y36, y37, y38, some (V.str (e_T x3)), some v9, y39, y40] ∧ AlD (rP2 K rInt (rO rInt)) G ks3 s) ⟨G10, _, _, _, _, _, ks2, (Ext.refl _), S23, rfl, h54⟩ ?_ ?_ ?_
              · intro s σ H hI
                obtain ⟨G, k17, k18, k19, k20, k21, k22, ie, iS, _⟩ := hI
                exact ie.trans iS.ext
              · intro i3 x5 x6 d_gaps_and_bars4 b3 hb5 hr3 v10 v11 σ4 H13 H14 hI3 hS3 h62 h63
                obtain ⟨s5, hb6, hb7⟩ := goF_some hb5
                subst hb7
                obtain ⟨G11, y41, y42, y43, y44, y45, ks4, e11, S24, rfl, h64⟩ := hI3
                have h65 := InsAt.up e11 h55
                have h66 := R.up e11 h56
                have h67 := R.up e11 h57
                have h68 := R.up e11 h58
                have h69 := R.up e11 h59
                have h70 := R.up e11 h61
                have h71 := R.up e11 h60
                have h72 := R.up e11 (rM_L (K := K) h59)
                have E11 := E10.trans e11
                have S25 := hS3 _ _ S24
                obtain rfl := (show v10 = (V.str (e_T x5)) from h62)
                have h73 := R.up e11 h63
                have hm15 : (Option.bind (m_Face_gap_and_bar apart1 x4 x6) fun r5 =>   Option.bind (catT x3 x5) fun t1 =>   Option.bind (putWM d_gaps_and_bars4 t1 r5) fun kvs1 =>   some kvs1) = some s5 := hb6
                refine gDPut ?_
                refine gMeth ?_
                refine gV rfl ?_
                obtain ⟨a2, d2, ev1, ha1⟩ := ins_prop S25 h65
                refine ⟨a2, d2, _, ev1, ha1, (by rfl), ?_⟩
                refine gCons' ?_
                refine gV rfl ?_
                refine gCons' ?_
                refine gV rfl ?_
                refine gNil' ?_
                obtain ⟨r5, hq6, hm16⟩ := bindS hm15
                refine ⟨G11, ((p2, HO.dK ks4) :: O), (V.ref p1), apart1, v9, x4, v11, x6, rfl, S25, (show R.rel (rIP (He.ga K "Face") "apart" rInt) G11 (V.ref p1) apart1 from ⟨_, _, h65, rfl, rfl⟩), h70, h73, r5, hq6, fun v12 G12 H15 e12 S26 h74 => ?_⟩
                have h75 := R.up e12 h66
                have h76 := InsAt.up e12 h65
                have h77 := R.up e12 h67
                have h78 := R.up e12 h68
                have h79 := R.up e12 h69
                have h80 := R.up e12 h70
                have h81 := R.up e12 h73
                have h82 := AlD.up e12 h64
                have h83 := R.up e12 h71
                have h84 := R.up e12 h72
                have E12 := E11.trans e12
                refine gFld ?_
                refine gV rfl ?_
                obtain ⟨a3, d3, ev2, ha2⟩ := ins_prop S26 h76
                refine ⟨a3, _, d3, _, _, ev2, ha2, T.cl_Face, T.n_Face_gaps_and_bars, rfl, ?_⟩
                refine gOp ?_
                refine gV rfl ?_
                refine gV rfl ?_
                obtain ⟨t1, hq7, hm17⟩ := bindS hm16
                refine q_catT hq7 ?_
                obtain ⟨kvs1, hq8, hm18⟩ := bindS hm17
                refine q_dput S26 h82 (show R.rel (rP2 K rInt (rO rInt)) G12 v12 r5 from h74) hq8 (fun H16 ks5 S27 h85 => ?_)
                cases hm18
                exact ⟨_, ⟨G12, _, _, _, _, _, ks5, (e11.trans e12), S27, rfl, h85⟩, hr3⟩
              · intro s σ H h1 h2
                cases h1
                obtain ⟨G, k17, k18, k19, k20, k21, k22, ie, irest⟩ := h2
                exact ⟨G, k17, k18, k19, k20, k21, k22, (ie), irest⟩
            · intro σ5 H17 hJ3
              obtain ⟨G13, y46, y47, y48, y49, y50, ks6, e13, S28, rfl, h86⟩ := hJ3
              have h87 := InsAt.up e13 h55
              have h88 := R.up e13 h56
              have h89 := R.up e13 h57
              have h90 := R.up e13 h58
              have h91 := R.up e13 h59
              have h92 := R.up e13 h61
              have h93 := R.up e13 h60
              have E13 := E10.trans e13
              cases hm14
              exact ⟨_, ⟨G13, _, _, _, _, _, _, _, ks6, (e10.trans e13), S28, rfl, h86⟩, hr2⟩
          · intro s σ H h1 h2
            cases h1
            obtain ⟨G, k9, k10, k11, k12, k13, k14, k15, k16, ie, irest⟩ := h2
            exact ⟨G, k9, k10, k11, k12, k13, k14, k15, k16, (ie), irest⟩
        · intro σ6 H18 hJ4
          obtain ⟨G14, y51, y52, y53, y54, y55, y56, y57, ks7, e14, S29, rfl, h94⟩ := hJ4
          have h95 := InsAt.up e14 h48
          have h96 := R.up e14 h47
          have h97 := R.up e14 h49
          have h98 := R.up e14 h50
          have h99 := R.up e14 h46
          have E14 := E9.trans e14
          obtain ⟨G15, e15, S30, h100⟩ := frz_D S29
          have h101 := R.up e15 h96
          have h102 := InsAt.up e15 h95
          have h103 := R.up e15 h97
          have h104 := R.up e15 h98
          have h105 := R.up e15 h99
          have h106 := AlD.up e15 h94
          have E15 := E14.trans e15
          have h107 : R.rel (rSD (rP2 K rInt (rO rInt))) G15 (V.ref p2) d_gaps_and_bars1 := ⟨_, _, rfl, h100, h106⟩
          cases hm12
          exact q G15 H18 E15 S30 ⟨(V.int apart1), v7, (V.ref p2), h102, rfl, h101, h107⟩
end
end Mr

set_option Elab.async false
set_option linter.all false
set_option maxRecDepth 100000
set_option maxHeartbeats 4000000
set_option synthInstance.maxSize 4000
set_option synthInstance.maxHeartbeats 400000
namespace Mr
open PySem PySem.Spec PyProof.Rows L2 GFr
section
variable {P : Program} {w : World} {K : PySem.W.Frag} {mg : Str → Option Value} {base : Heap}
theorem sc_law_bag : FnScope ["_law_script", "_law_at", "_law_great", "_law_mixed", "_law_place", "_law_cell"] ["_law_script", "_law_at"] (defScope s_law_bag) := ⟨rfl, rfl, rfl, by decide +kernel, rfl, by decide +kernel, by decide +kernel⟩
theorem ok_law_bag (T : Tx K mg) : FnOk P w K mg base CX0 1 (He.fAd K ("_law_bag", none)) T.fd_law_bag ["_law_script", "_law_at"] (sp_law_bag K w) := by
  refine T.F_law_bag.ok sc_law_bag (fun vs H Q E h => ?_) (fun cdv A outer s H0 vs Q E hr h => ?_)
  · obtain ⟨G, O, v1, script1, at1, rfl, _⟩ := h
    rfl
  · obtain ⟨G0, O, v1, script1, at1, rfl, S0, h1, res, hm, q⟩ := h
    refine ⟨_, PSs.nox (pss_cons (ps_set (i := 2) sc_law_bag.nd rfl (.inl rfl) (pe_cut (pe_ifExp (pt_cmpR op_lt (pv 1) (pe_callB (r := rLenM K) call_lenM (by rfl) T.z_len boot_len (pa_cons (pv 0) pa_nil)) (nomark _)) (pe_callB call_abs (by rfl) T.z_abs boot_abs (pa_cons (pe_callTy call_int1 (by rfl) T.z_int boot_int (pa_cons (pe_ix ix_list (pv 0) (pv 1) (fun _ _ => rfl)) pa_nil)) pa_nil)) pe_int)))
      (pss_cons (ps_set (i := 3) sc_law_bag.nd rfl (.inl rfl) (pe_op op_add pe_int (pe_op op_mul pe_int (pv 1))))
      (pss_cons (ps_cut (ps_for PassesOwn.never rfl (pi_enumQ (by rfl) T.z_enumerate (pa_cons (pe_slice sl_list (pv 0) po_none (po_some pe_int)) pa_nil)) (pg_tup rfl (pgs_cons (pg_name (i := 4) sc_law_bag.nd rfl (.inl rfl)) (pgs_cons (pg_name (i := 5) sc_law_bag.nd rfl (.inl rfl)) pgs_nil)))
      (pss_one (ps_set (i := 3) sc_law_bag.nd rfl (.inl rfl) (pe_op op_mod (pe_callTy call_int1 (by rfl) T.z_int boot_int (pa_cons (pe_op op_add (pe_op op_add (pe_op op_mul (pv 3) pe_int) (pe_op op_mod (pe_callTy call_int1 (by rfl) T.z_int boot_int (pa_cons (pv 5) pa_nil)) pe_int)) (pe_op op_mul pe_int (pv 4))) pa_nil)) pe_int)))))
      (pss_one (ps_ret (pe_lst (pa_cons (pe_cut (pe_ifExp (pt_cmpR op_ge (pv 2) (pe_op op_pow pe_int pe_int) (nomark _)) (pv 2) pe_int)) (pa_cons (pv 3) (pa_cons pe_int pa_nil))))))))), ?_⟩
    have E0 := Ext.refl G0
    have hm0 : (Option.bind (if (decide (at1 < (script1.length : Int))) then (Option.bind (getM script1 at1) fun x1 =>
  some (if x1 < 0 then -x1 else x1)) else (some (0 : Int))) fun x2 =>
  Option.bind (folM (m_law_bag_b1) (enumM (cutM script1 none (some (63 : Int)))) ((1009 : Int) + ((77 : Int) * at1))) fun mixed1 =>
  some ([(if (decide (x2 ≥ ((10 : Int) ^ (18 : Int).toNat))) then x2 else (0 : Int)), mixed1, (0 : Int)] : List Int)) = some res := hm
    refine gS_AsgN ?_
    obtain ⟨x2, hq2, hm2⟩ := bindS hm0
    refine gCE (fun (v : V) (H : Hp) => ∃ (G : Hp), Ext G0 G ∧ Sub G (O) H ∧ v = (V.int x2)) ?_ ?_
    · skip
      refine gIf ?_
      refine gTest ?_
      refine gOp ?_
      refine gV rfl ?_
      refine gCB ?_
      refine gCons' ?_
      refine gV rfl ?_
      refine gNil' ?_
      refine q_lenL (y := V.non) S0 h1 ?_
      refine ⟨_, _, rfl, rfl, ?_⟩
      refine ⟨(decide (at1 < (script1.length : Int))), rfl, ?_⟩
      refine ite2 (fun c1 => ?_) (fun c1 => ?_)
      · skip
        have hm3 := (if_pos c1).symm.trans hq2
        refine gCB ?_
        refine gCons' ?_
        refine gCB ?_
        refine gCons' ?_
        refine gOp ?_
        refine gV rfl ?_
        refine gV rfl ?_
        obtain ⟨x3, hq3, hm4⟩ := bindS hm3
        refine q_ixL S0 h1 hq3 (fun v3 h3 => ?_)
        obtain rfl := (show v3 = (V.int x3) from h3)
        refine gNil' ?_
        refine .inl ⟨_, rfl, ?_⟩
        refine gNil' ?_
        refine ⟨_, rfl, ?_⟩
        cases hm4
        exact ⟨G0, (Ext.refl _), S0, rfl⟩
      · skip
        have hm5 := (if_neg c1).symm.trans hq2
        refine gC ?_
        cases hm5
        exact ⟨G0, (Ext.refl _), S0, rfl⟩
    · intro v4 H1 hJ
      obtain ⟨G1, e1, S1, rfl⟩ := hJ
      have h5 := R.up e1 h1
      have E1 := E0.trans e1
      refine gS_AsgN ?_
      refine gOp ?_
      refine gC ?_
      refine gOp ?_
      refine gC ?_
      refine gV rfl ?_
      refine ⟨_, _, rfl, rfl, .inl ⟨by decide, by decide⟩, ?_⟩
      refine ⟨_, _, rfl, rfl, ?_⟩
      obtain ⟨mixed1, hl1, hm6⟩ := bindS hm2
      refine gS_CS (fun (σ : L2.St) (H : Hp) => ∃ (G : Hp) (y1 : Option V) (y2 : Option V), Ext G1 G ∧ Sub G (O) H ∧ σ = [some v1, some (V.int at1), some (V.int x2), some (V.int mixed1), y1, y2]) ?_ ?_
      · skip
        refine gFor ?_
        refine gIE ?_
        refine gCons' ?_
        refine gSl ?_
        refine gV rfl ?_
        refine gNoPart ?_
        refine gPart ?_
        refine gC ?_
        refine ⟨_, rfl, ?_⟩
        refine q_slM S1 h5 (fun v5 G2 H2 e2 S2 h6 => ?_)
        have h7 := R.up e2 h5
        have E2 := E1.trans e2
        refine gNil' ?_
        refine lp_EQ (r := rInt) S2 (rM_Q (K := K) h6) (fol_for Empty hl1) (fun (s : Int) (σ : L2.St) (H : Hp) => ∃ (G : Hp) (y1 : Option V) (y2 : Option V), Ext G2 G ∧ Sub G (O) H ∧ σ = [some v1, some (V.int at1), some (V.int x2), some (V.int s), y1, y2]) ⟨G2, _, _, (Ext.refl _), S2, rfl⟩ ?_ ?_ ?_
        · intro s σ H hI
          obtain ⟨G, k1, k2, ie, iS, _⟩ := hI
          exact ie.trans iS.ext
        · intro i1 x4 mixed2 b1 hb1 hr1 v6 σ1 H3 H4 hI1 hS1 h8
          obtain ⟨s2, hb2, hb3⟩ := goF_some hb1
          subst hb3
          obtain ⟨G3, y3, y4, e3, S3, rfl⟩ := hI1
          have h9 := R.up e3 h7
          have h10 := R.up e3 h6
          have E3 := E2.trans e3
          have S4 := hS1 _ _ S3
          generalize ((i1 : Nat) : Int) = k3 at hb2 ⊢
          obtain rfl := (show v6 = (V.int x4) from h8)
          have hm7 : (some ((((mixed2 * (16807 : Int)) + (x4 % (2147483629 : Int))) + ((13 : Int) * k3)) % (2147483647 : Int))) = some s2 := hb2
          refine gAsgN ?_
          refine gOp ?_
          refine gCB ?_
          refine gCons' ?_
          refine gOp ?_
          refine gOp ?_
          refine gOp ?_
          refine gV rfl ?_
          refine gC ?_
          refine ⟨_, _, rfl, rfl, .inr ⟨by decide, by decide⟩, ?_⟩
          refine gOp ?_
          refine gCB ?_
          refine gCons' ?_
          refine gV rfl ?_
          refine gNil' ?_
          refine .inl ⟨_, rfl, ?_⟩
          refine gC ?_
          refine ⟨_, _, rfl, rfl, (by show (0 : Int) < 2147483629; decide), ?_⟩
          refine ⟨_, _, rfl, rfl, ?_⟩
          refine gOp ?_
          refine gC ?_
          refine gV rfl ?_
          refine ⟨_, _, rfl, rfl, .inl ⟨by decide, by decide⟩, ?_⟩
          refine ⟨_, _, rfl, rfl, ?_⟩
          refine gNil' ?_
          refine .inl ⟨_, rfl, ?_⟩
          refine gC ?_
          refine ⟨_, _, rfl, rfl, (by show (0 : Int) < 2147483647; decide), ?_⟩
          cases hm7
          exact ⟨_, ⟨G3, _, _, e3, S4, rfl⟩, hr1⟩
        · intro s σ H h1 h2
          cases h1
          obtain ⟨G, k1, k2, ie, irest⟩ := h2
          exact ⟨G, k1, k2, (e2.trans ie), irest⟩
      · intro σ2 H5 hJ1
        obtain ⟨G4, y5, y6, e4, S5, rfl⟩ := hJ1
        have h11 := R.up e4 h5
        have E4 := E1.trans e4
        refine gRet ?_
        refine gLst ?_
        refine gCons' ?_
        refine gCE (fun (v : V) (H : Hp) => ∃ (G : Hp), Ext G4 G ∧ Sub G (O) H ∧ v = (V.int (if (decide (x2 ≥ ((10 : Int) ^ (18 : Int).toNat))) then x2 else (0 : Int)))) ?_ ?_
        · skip
          refine gIf ?_
          refine gTest ?_
          refine gOp ?_
          refine gV rfl ?_
          refine gOp ?_
          refine gC ?_
          refine gC ?_
          refine ⟨_, _, rfl, rfl, ⟨by decide, by decide, by decide⟩, ?_⟩
          refine ⟨_, _, rfl, rfl, ?_⟩
          refine ⟨(decide (x2 ≥ ((10 : Int) ^ (18 : Int).toNat))), rfl, ?_⟩
          refine ite2 (fun c2 => ?_) (fun c2 => ?_)
          · skip
            refine gV rfl ?_
            exact ⟨G4, (Ext.refl _), S5, congrArg V.int (if_pos c2).symm⟩
          · skip
            refine gC ?_
            exact ⟨G4, (Ext.refl _), S5, congrArg V.int (if_neg c2).symm⟩
        · intro v7 H6 hJ
          obtain ⟨G5, e5, S6, rfl⟩ := hJ
          have h13 := R.up e5 h11
          have E5 := E4.trans e5
          refine gCons' ?_
          refine gV rfl ?_
          refine gCons' ?_
          refine gC ?_
          refine gNil' ?_
          have h14 : Al rInt G5 [(V.int (if (decide (x2 ≥ ((10 : Int) ^ (18 : Int).toNat))) then x2 else (0 : Int))), (V.int mixed1), (V.int (0 : Int))] [(if (decide (x2 ≥ ((10 : Int) ^ (18 : Int).toNat))) then x2 else (0 : Int)), mixed1, (0 : Int)] := ⟨rfl, rfl, rfl, True.intro⟩
          refine q_lst S6 h14 (by show 3 ≤ 100000; decide) (fun a1 H7 w1 S7 h15 => ?_)
          cases hm6
          exact q a1 w1 G5 H7 E5 S7 h15
end
end Mr

set_option Elab.async false
set_option linter.all false
set_option maxRecDepth 100000
set_option maxHeartbeats 4000000
set_option synthInstance.maxSize 4000
set_option synthInstance.maxHeartbeats 400000
namespace Mr
open PySem PySem.Spec PyProof.Rows L2 GFr
section
variable {P : Program} {w : World} {K : PySem.W.Frag} {mg : Str → Option Value} {base : Heap}
theorem sc_law_draw : FnScope ["_law_bag_here", "_law_many", "_law_digit"] ["_law_bag_here", "_law_many"] (defScope s_law_draw) := ⟨rfl, rfl, rfl, by decide +kernel, rfl, by decide +kernel, by decide +kernel⟩
theorem ok_law_draw (T : Tx K mg) : FnOk P w K mg base CX0 1 (He.fAd K ("_law_draw", none)) T.fd_law_draw ["_law_bag_here", "_law_many"] (sp_law_draw K w) := by
  refine T.F_law_draw.ok sc_law_draw (fun vs H Q E h => ?_) (fun cdv A outer s H0 vs Q E hr h => ?_)
  · obtain ⟨G, O, a1, w1, bag_here1, many1, rfl, _⟩ := h
    rfl
  · obtain ⟨G0, O, a1, w1, bag_here1, many1, rfl, S0, h1, res, hm, q⟩ := h
    refine ⟨_, PSs.nox (pss_cons (ps_if (pt_cmpR op_gt (pe_ix ix_list (pv 0) pe_int (fun _ _ => rfl)) pe_int (nomark _)) (pss_cons (ps_set (i := 2) sc_law_draw.nd rfl (.inl rfl) (pe_op op_mod (pe_callTy call_int1 (by rfl) T.z_int boot_int (pa_cons (pe_ix ix_list (pv 0) pe_int (fun _ _ => rfl)) pa_nil)) (pv 1)))
      (pss_cons (ps_asg (pe_op op_fdivW (pe_ix ix_list (pv 0) pe_int (fun _ _ => rfl)) (pv 1)) (pg_sub (pv 0) pe_int set_list))
      (pss_one (ps_ret (pv 2))))) pss_nil)
      (pss_cons (ps_asg (pe_op op_add (pe_ix ix_list (pv 0) pe_int (fun _ _ => rfl)) pe_int) (pg_sub (pv 0) pe_int set_list))
      (pss_cons (ps_asg (pe_op op_mod (pe_callTy call_int1 (by rfl) T.z_int boot_int (pa_cons (pe_op op_add (pe_op op_add (pe_op op_mul (pe_ix ix_list (pv 0) pe_int (fun _ _ => rfl)) pe_int) (pe_op op_mul pe_int (pe_ix ix_list (pv 0) pe_int (fun _ _ => rfl)))) pe_int) pa_nil)) pe_int) (pg_sub (pv 0) pe_int set_list))
      (pss_one (ps_ret (pe_op op_mod (pe_op op_fdivW (pe_callTy call_int1 (by rfl) T.z_int boot_int (pa_cons (pe_op op_mod (pe_callTy call_int1 (by rfl) T.z_int boot_int (pa_cons (pe_op op_add (pe_op op_mul (pe_ix ix_list (pv 0) pe_int (fun _ _ => rfl)) pe_int) (pe_op op_mul pe_int (pe_ix ix_list (pv 0) pe_int (fun _ _ => rfl)))) pa_nil)) pe_int) pa_nil)) pe_int) (pv 1))))))), ?_⟩
    have E0 := Ext.refl G0
    have hm0 : (Option.bind (getM bag_here1 (0 : Int)) fun x1 =>
  if (decide (x1 > (0 : Int))) then (Option.bind (getM bag_here1 (0 : Int)) fun x2 =>
  Option.bind (modM x2 many1) fun x3 =>
  Option.bind (getM bag_here1 (0 : Int)) fun x4 =>
  Option.bind (fdivM x4 many1) fun x5 =>
  Option.bind (setM bag_here1 (0 : Int) x5) fun bag_here2 =>
  some (x3, bag_here2))
  else (Option.bind (getM bag_here1 (2 : Int)) fun x6 =>
  Option.bind (setM bag_here1 (2 : Int) (x6 + (1 : Int))) fun bag_here3 =>
  Option.bind (getM bag_here3 (1 : Int)) fun x7 =>
  Option.bind (getM bag_here3 (2 : Int)) fun x8 =>
  Option.bind (setM bag_here3 (1 : Int) ((((x7 * (48271 : Int)) + ((11 : Int) * x8)) + (7 : Int)) % (2147483647 : Int))) fun bag_here4 =>
  Option.bind (getM bag_here4 (1 : Int)) fun x9 =>
  Option.bind (getM bag_here4 (2 : Int)) fun x10 =>
  Option.bind (modM ((((x9 * (69621 : Int)) + ((4099 : Int) * x10)) % (2147483629 : Int)) / (128 : Int)) many1) fun x11 =>
  some (x11, bag_here4))) = some res := hm
    refine gS_IfS ?_
    refine gTest ?_
    refine gOp ?_
    refine gOp ?_
    refine gV rfl ?_
    refine gC ?_
    obtain ⟨x1, hq1, hm1⟩ := bindS hm0
    refine q_ixO S0 h1 hq1 (fun v1 h2 => ?_)
    obtain rfl := (show v1 = (V.int x1) from h2)
    refine gC ?_
    refine ⟨_, _, rfl, rfl, ?_⟩
    refine ⟨(decide (x1 > (0 : Int))), rfl, ?_⟩
    refine ite2 (fun c1 => ?_) (fun c1 => ?_)
    · skip
      have hm2 := (if_pos c1).symm.trans hm1
      refine gS_AsgN ?_
      refine gOp ?_
      refine gCB ?_
      refine gCons' ?_
      refine gOp ?_
      refine gV rfl ?_
      refine gC ?_
      obtain ⟨x2, hq2, hm3⟩ := bindS hm2
      refine q_ixO S0 h1 hq2 (fun v2 h3 => ?_)
      obtain rfl := (show v2 = (V.int x2) from h3)
      refine gNil' ?_
      refine .inl ⟨_, rfl, ?_⟩
      refine gV rfl ?_
      obtain ⟨x3, hq3, hm4⟩ := bindS hm3
      refine q_mod hq3 ?_
      refine gS_Asg ?_
      refine gOp ?_
      refine gOp ?_
      refine gV rfl ?_
      refine gC ?_
      obtain ⟨x4, hq4, hm5⟩ := bindS hm4
      refine q_ixO S0 h1 hq4 (fun v3 h4 => ?_)
      obtain rfl := (show v3 = (V.int x4) from h4)
      refine gV rfl ?_
      obtain ⟨x5, hq5, hm6⟩ := bindS hm5
      refine q_fdiv hq5 ?_
      refine gSub' ?_
      refine gV rfl ?_
      refine gC ?_
      obtain ⟨bag_here2, hq6, hm7⟩ := bindS hm6
      refine q_setL S0 h1 (show R.rel rInt G0 (V.int x5) x5 from rfl) hq6 (fun H1 w2 S1 h5 => ?_)
      refine gRet ?_
      refine gV rfl ?_
      cases hm7
      exact q G0 H1 w2 E0 S1 h5
    · skip
      have hm8 := (if_neg c1).symm.trans hm1
      refine gNext ?_
      refine gE ?_
      refine gS_Asg ?_
      refine gOp ?_
      refine gOp ?_
      refine gV rfl ?_
      refine gC ?_
      obtain ⟨x6, hq7, hm9⟩ := bindS hm8
      refine q_ixO S0 h1 hq7 (fun v4 h6 => ?_)
      obtain rfl := (show v4 = (V.int x6) from h6)
      refine gC ?_
      refine ⟨_, _, rfl, rfl, ?_⟩
      refine gSub' ?_
      refine gV rfl ?_
      refine gC ?_
      obtain ⟨bag_here3, hq8, hm10⟩ := bindS hm9
      refine q_setL S0 h1 (show R.rel rInt G0 (V.int (x6 + (1 : Int))) (x6 + (1 : Int)) from rfl) hq8 (fun H2 w3 S2 h7 => ?_)
      refine gS_Asg ?_
      refine gOp ?_
      refine gCB ?_
      refine gCons' ?_
      refine gOp ?_
      refine gOp ?_
      refine gOp ?_
      refine gOp ?_
      refine gV rfl ?_
      refine gC ?_
      obtain ⟨x7, hq9, hm11⟩ := bindS hm10
      refine q_ixO S2 h7 hq9 (fun v5 h8 => ?_)
      obtain rfl := (show v5 = (V.int x7) from h8)
      refine gC ?_
      refine ⟨_, _, rfl, rfl, .inr ⟨by decide, by decide⟩, ?_⟩
      refine gOp ?_
      refine gC ?_
      refine gOp ?_
      refine gV rfl ?_
      refine gC ?_
      obtain ⟨x8, hq10, hm12⟩ := bindS hm11
      refine q_ixO S2 h7 hq10 (fun v6 h9 => ?_)
      obtain rfl := (show v6 = (V.int x8) from h9)
      refine ⟨_, _, rfl, rfl, .inl ⟨by decide, by decide⟩, ?_⟩
      refine ⟨_, _, rfl, rfl, ?_⟩
      refine gC ?_
      refine ⟨_, _, rfl, rfl, ?_⟩
      refine gNil' ?_
      refine .inl ⟨_, rfl, ?_⟩
      refine gC ?_
      refine ⟨_, _, rfl, rfl, (by show (0 : Int) < 2147483647; decide), ?_⟩
      refine gSub' ?_
      refine gV rfl ?_
      refine gC ?_
      obtain ⟨bag_here4, hq11, hm13⟩ := bindS hm12
      refine q_setL S2 h7 (show R.rel rInt G0 (V.int ((((x7 * (48271 : Int)) + ((11 : Int) * x8)) + (7 : Int)) % (2147483647 : Int))) ((((x7 * (48271 : Int)) + ((11 : Int) * x8)) + (7 : Int)) % (2147483647 : Int)) from rfl) hq11 (fun H3 w4 S3 h10 => ?_)
      refine gRet ?_
      refine gOp ?_
      refine gOp ?_
      refine gCB ?_
      refine gCons' ?_
      refine gOp ?_
      refine gCB ?_
      refine gCons' ?_
      refine gOp ?_
      refine gOp ?_
      refine gOp ?_
      refine gV rfl ?_
      refine gC ?_
      obtain ⟨x9, hq12, hm14⟩ := bindS hm13
      refine q_ixO S3 h10 hq12 (fun v7 h11 => ?_)
      obtain rfl := (show v7 = (V.int x9) from h11)
      refine gC ?_
      refine ⟨_, _, rfl, rfl, .inr ⟨by decide, by decide⟩, ?_⟩
      refine gOp ?_
      refine gC ?_
      refine gOp ?_
      refine gV rfl ?_
      refine gC ?_
      obtain ⟨x10, hq13, hm15⟩ := bindS hm14
      refine q_ixO S3 h10 hq13 (fun v8 h12 => ?_)
      obtain rfl := (show v8 = (V.int x10) from h12)
      refine ⟨_, _, rfl, rfl, .inl ⟨by decide, by decide⟩, ?_⟩
      refine ⟨_, _, rfl, rfl, ?_⟩
      refine gNil' ?_
      refine .inl ⟨_, rfl, ?_⟩
      refine gC ?_
      refine ⟨_, _, rfl, rfl, (by show (0 : Int) < 2147483629; decide), ?_⟩
      refine gNil' ?_
      refine .inl ⟨_, rfl, ?_⟩
      refine gC ?_
      refine ⟨_, _, rfl, rfl, ⟨by decide, by decide⟩, ?_⟩
      refine gV rfl ?_
      obtain ⟨x11, hq14, hm16⟩ := bindS hm15
      refine q_mod hq14 ?_
      cases hm16
      exact q G0 H3 w4 E0 S3 h10
end
end Mr

set_option Elab.async false
set_option linter.all false
set_option maxRecDepth 100000
set_option maxHeartbeats 4000000
set_option synthInstance.maxSize 4000
set_option synthInstance.maxHeartbeats 400000
namespace Mr
open PySem PySem.Spec PyProof.Rows L2 GFr
section
variable {P : Program} {w : World} {K : PySem.W.Frag} {mg : Str → Option Value} {base : Heap}
theorem sc_law_one : FnScope ["_law_bag_here", "_law_things"] ["_law_bag_here", "_law_things"] (defScope s_law_one) := ⟨rfl, rfl, rfl, by decide +kernel, rfl, by decide +kernel, by decide +kernel⟩
theorem ok_law_one (T : Tx K mg) : FnOk P w K mg base CX0 2 (He.fAd K ("_law_one", none)) T.fd_law_one ["_law_bag_here", "_law_things"] (sp_law_one K w) := by
  have G_law_draw := ok_law_draw (P := P) (w := w) (base := base) T
  refine T.F_law_one.ok sc_law_one (fun vs H Q E h => ?_) (fun cdv A outer s H0 vs Q E hr h => ?_)
  · obtain ⟨G, O, a1, w1, bag_here1, v1, things1, rfl, _⟩ := h
    rfl
  · obtain ⟨G0, O, a1, w1, bag_here1, v1, things1, rfl, S0, h1, h2, res, hm, q⟩ := h
    refine ⟨_, PSs.nox (pss_one (ps_ret (pe_ix ix_list (pv 1) (pe_call G_law_draw (hr.mono (by decide)) (by rfl) T.g_law_draw T.F_law_draw.kp T.b_law_draw .nil pass0 (pa_cons (pv 0) (pa_cons (pe_callB (r := rLenM K) call_lenM (by rfl) T.z_len boot_len (pa_cons (pv 1) pa_nil)) pa_nil))) (fun _ _ => rfl)))), ?_⟩
    have E0 := Ext.refl G0
    have hm0 : (Option.bind (m_law_draw bag_here1 (things1.length : Int)) fun (r1, bag_here2) =>
  Option.bind (getM things1 r1) fun x1 =>
  some (x1, bag_here2)) = some res := hm
    refine gRet ?_
    refine gOp ?_
    refine gV rfl ?_
    refine gCall ?_
    refine gCons' ?_
    refine gV rfl ?_
    refine gCons' ?_
    refine gCB ?_
    refine gCons' ?_
    refine gV rfl ?_
    refine gNil' ?_
    refine q_lenL (y := V.non) S0 (rM_L (K := K) h2) ?_
    refine gNil' ?_
    obtain ⟨⟨r1, bag_here2⟩, hq1, hm1⟩ := bindS hm0
    dsimp only at hm1
    refine ⟨G0, (O), a1, w1, bag_here1, (things1.length : Int), rfl, S0, h1, (r1, bag_here2), hq1, fun G1 H1 w2 e1 S1 h3 => ?_⟩
    have h4 := R.up e1 h2
    have E1 := E0.trans e1
    obtain ⟨x1, hq2, hm2⟩ := bindS hm1
    refine q_ixL S1 (rM_L (K := K) h4) hq2 (fun v2 h5 => ?_)
    obtain rfl := (show v2 = (V.int x1) from h5)
    cases hm2
    exact q G1 H1 w2 E1 S1 h3
end
end Mr

set_option Elab.async false
set_option linter.all false
set_option maxRecDepth 100000
set_option maxHeartbeats 4000000
set_option synthInstance.maxSize 4000
set_option synthInstance.maxHeartbeats 400000
namespace Mr
open PySem PySem.Spec PyProof.Rows L2 GFr
section
variable {P : Program} {w : World} {K : PySem.W.Frag} {mg : Str → Option Value} {base : Heap}
theorem sc_law_box : FnScope ["_law_bag_here", "_law_wide", "_law_left", "_law_top", "_law_right", "_law_foot"] ["_law_bag_here", "_law_wide"] (defScope s_law_box) := ⟨rfl, rfl, rfl, by decide +kernel, rfl, by decide +kernel, by decide +kernel⟩
theorem ok_law_box (T : Tx K mg) : FnOk P w K mg base CX0 2 (He.fAd K ("_law_box", none)) T.fd_law_box ["_law_bag_here", "_law_wide"] (sp_law_box K w) := by
  have G_law_draw := ok_law_draw (P := P) (w := w) (base := base) T
  refine T.F_law_box.ok sc_law_box (fun vs H Q E h => ?_) (fun cdv A outer s H0 vs Q E hr h => ?_)
  · obtain ⟨G, O, a1, w1, bag_here1, wide1, rfl, _⟩ := h
    rfl
  · obtain ⟨G0, O, a1, w1, bag_here1, wide1, rfl, S0, h1, res, hm, q⟩ := h
    refine ⟨_, PSs.nox (pss_cons (ps_par (i := 2) (j := 3) (by rfl) sc_law_box.nd rfl rfl (by decide) rfl rfl (pa_cons (pe_call G_law_draw (hr.mono (by decide)) (by rfl) T.g_law_draw T.F_law_draw.kp T.b_law_draw .nil pass0 (pa_cons (pv 0) (pa_cons (pv 1) pa_nil))) (pa_cons (pe_call G_law_draw (hr.mono (by decide)) (by rfl) T.g_law_draw T.F_law_draw.kp T.b_law_draw .nil pass0 (pa_cons (pv 0) (pa_cons pe_int pa_nil))) pa_nil)) (by rfl))
      (pss_cons (ps_set (i := 4) sc_law_box.nd rfl (.inl rfl) (pe_op op_add (pe_op op_add (pv 2) pe_int) (pe_call G_law_draw (hr.mono (by decide)) (by rfl) T.g_law_draw T.F_law_draw.kp T.b_law_draw .nil pass0 (pa_cons (pv 0) (pa_cons (pe_op op_sub (pv 1) (pv 2)) pa_nil)))))
      (pss_cons (ps_set (i := 5) sc_law_box.nd rfl (.inl rfl) (pe_op op_add (pe_op op_add (pv 3) pe_int) (pe_call G_law_draw (hr.mono (by decide)) (by rfl) T.g_law_draw T.F_law_draw.kp T.b_law_draw .nil pass0 (pa_cons (pv 0) (pa_cons (pe_op op_sub pe_int (pv 3)) pa_nil)))))
      (pss_one (ps_ret (pe_lst (pa_cons (pe_tup (pa_cons (pv 2) (pa_cons (pv 3) pa_nil))) (pa_cons (pe_tup (pa_cons (pv 4) (pa_cons (pv 3) pa_nil))) (pa_cons (pe_tup (pa_cons (pv 4) (pa_cons (pv 5) pa_nil))) (pa_cons (pe_tup (pa_cons (pv 2) (pa_cons (pv 5) pa_nil))) pa_nil)))))))))), ?_⟩
    have E0 := Ext.refl G0
    have hm0 : (Option.bind (m_law_draw bag_here1 wide1) fun (r1, bag_here2) =>
  Option.bind (m_law_draw bag_here2 (4 : Int)) fun (r2, bag_here3) =>
  Option.bind (m_law_draw bag_here3 (wide1 - r1)) fun (r3, bag_here4) =>
  Option.bind (m_law_draw bag_here4 ((4 : Int) - r2)) fun (r4, bag_here5) =>
  some (([(r1, r2), (((r1 + (1 : Int)) + r3), r2), (((r1 + (1 : Int)) + r3), ((r2 + (1 : Int)) + r4)), (r1, ((r2 + (1 : Int)) + r4))] : List (Int × Int)), bag_here5)) = some res := hm
    refine gS_Par ?_
    refine gCons' ?_
    refine gCall ?_
    refine gCons' ?_
    refine gV rfl ?_
    refine gCons' ?_
    refine gV rfl ?_
    refine gNil' ?_
    obtain ⟨⟨r1, bag_here2⟩, hq1, hm1⟩ := bindS hm0
    dsimp only at hm1
    refine ⟨G0, (O), a1, w1, bag_here1, wide1, rfl, S0, h1, (r1, bag_here2), hq1, fun G1 H1 w2 e1 S1 h2 => ?_⟩
    have E1 := E0.trans e1
    refine gCons' ?_
    refine gCall ?_
    refine gCons' ?_
    refine gV rfl ?_
    refine gCons' ?_
    refine gC ?_
    refine gNil' ?_
    obtain ⟨⟨r2, bag_here3⟩, hq2, hm2⟩ := bindS hm1
    dsimp only at hm2
    refine ⟨G1, (O), a1, w2, bag_here2, (4 : Int), rfl, S1, h2, (r2, bag_here3), hq2, fun G2 H2 w3 e2 S2 h3 => ?_⟩
    have E2 := E1.trans e2
    refine gNil' ?_
    refine ⟨_, _, rfl, ?_⟩
    refine gS_AsgN ?_
    refine gOp ?_
    refine gOp ?_
    refine gV rfl ?_
    refine gC ?_
    refine ⟨_, _, rfl, rfl, ?_⟩
    refine gCall ?_
    refine gCons' ?_
    refine gV rfl ?_
    refine gCons' ?_
    refine gOp ?_
    refine gV rfl ?_
    refine gV rfl ?_
    refine ⟨_, _, rfl, rfl, ?_⟩
    refine gNil' ?_
    obtain ⟨⟨r3, bag_here4⟩, hq3, hm3⟩ := bindS hm2
    dsimp only at hm3
    refine ⟨G2, (O), a1, w3, bag_here3, (wide1 - r1), rfl, S2, h3, (r3, bag_here4), hq3, fun G3 H3 w4 e3 S3 h4 => ?_⟩
    have E3 := E2.trans e3
    refine ⟨_, _, rfl, rfl, ?_⟩
    refine gS_AsgN ?_
    refine gOp ?_
    refine gOp ?_
    refine gV rfl ?_
    refine gC ?_
    refine ⟨_, _, rfl, rfl, ?_⟩
    refine gCall ?_
    refine gCons' ?_
    refine gV rfl ?_
    refine gCons' ?_
    refine gOp ?_
    refine gC ?_
    refine gV rfl ?_
    refine ⟨_, _, rfl, rfl, ?_⟩
    refine gNil' ?_
    obtain ⟨⟨r4, bag_here5⟩, hq4, hm4⟩ := bindS hm3
    dsimp only at hm4
    refine ⟨G3, (O), a1, w4, bag_here4, ((4 : Int) - r2), rfl, S3, h4, (r4, bag_here5), hq4, fun G4 H4 w5 e4 S4 h5 => ?_⟩
    have E4 := E3.trans e4
    refine ⟨_, _, rfl, rfl, ?_⟩
    refine gRet ?_
    refine gLst ?_
    refine gCons' ?_
    refine gTup' ?_
    refine gCons' ?_
    refine gV rfl ?_
    refine gCons' ?_
    refine gV rfl ?_
    refine gNil' ?_
    refine q_tup2 (K := K) S4 (show R.rel rInt G4 (V.int r1) r1 from rfl) (show R.rel rInt G4 (V.int r2) r2 from rfl) (fun v1 G5 H5 e5 S5 h6 => ?_)
    have h7 := Al.up e5 h5
    have E5 := E4.trans e5
    refine gCons' ?_
    refine gTup' ?_
    refine gCons' ?_
    refine gV rfl ?_
    refine gCons' ?_
    refine gV rfl ?_
    refine gNil' ?_
    refine q_tup2 (K := K) S5 (show R.rel rInt G5 (V.int ((r1 + (1 : Int)) + r3)) ((r1 + (1 : Int)) + r3) from rfl) (show R.rel rInt G5 (V.int r2) r2 from rfl) (fun v2 G6 H6 e6 S6 h8 => ?_)
    have h9 := Al.up e6 h7
    have h10 := R.up e6 h6
    have E6 := E5.trans e6
    refine gCons' ?_
    refine gTup' ?_
    refine gCons' ?_
    refine gV rfl ?_
    refine gCons' ?_
    refine gV rfl ?_
    refine gNil' ?_
    refine q_tup2 (K := K) S6 (show R.rel rInt G6 (V.int ((r1 + (1 : Int)) + r3)) ((r1 + (1 : Int)) + r3) from rfl) (show R.rel rInt G6 (V.int ((r2 + (1 : Int)) + r4)) ((r2 + (1 : Int)) + r4) from rfl) (fun v3 G7 H7 e7 S7 h11 => ?_)
    have h12 := Al.up e7 h9
    have h13 := R.up e7 h10
    have h14 := R.up e7 h8
    have E7 := E6.trans e7
    refine gCons' ?_
    refine gTup' ?_
    refine gCons' ?_
    refine gV rfl ?_
    refine gCons' ?_
    refine gV rfl ?_
    refine gNil' ?_
    refine q_tup2 (K := K) S7 (show R.rel rInt G7 (V.int r1) r1 from rfl) (show R.rel rInt G7 (V.int ((r2 + (1 : Int)) + r4)) ((r2 + (1 : Int)) + r4) from rfl) (fun v4 G8 H8 e8 S8 h15 => ?_)
    have h16 := Al.up e8 h12
    have h17 := R.up e8 h13
    have h18 := R.up e8 h14
    have h19 := R.up e8 h11
    have E8 := E7.trans e8
    refine gNil' ?_
    have h20 : Al (rP2 K rInt rInt) G8 [v1, v2, v3, v4] [(r1, r2), (((r1 + (1 : Int)) + r3), r2), (((r1 + (1 : Int)) + r3), ((r2 + (1 : Int)) + r4)), (r1, ((r2 + (1 : Int)) + r4))] := ⟨h17, h18, h19, h15, True.intro⟩
    refine q_lst S8 h20 (by show 4 ≤ 100000; decide) (fun a2 H9 w6 S9 h21 => ?_)
    obtain ⟨G9, e9, S10, h22⟩ := frz_M S9 h21
    have h23 := Al.up e9 h16
    have E9 := E8.trans e9
    cases hm4
    exact q (V.ref a2) G9 H9 w5 E9 S10 h22 h23
end
end Mr

set_option Elab.async false
set_option linter.all false
set_option maxRecDepth 100000
set_option maxHeartbeats 4000000
set_option synthInstance.maxSize 4000
set_option synthInstance.maxHeartbeats 400000
namespace Mr
open PySem PySem.Spec PyProof.Rows L2 GFr
section
variable {P : Program} {w : World} {K : PySem.W.Frag} {mg : Str → Option Value} {base : Heap}
theorem sc_law_outlines : FnScope ["_law_bag_here", "_law_many", "_law_wide", "_law_found", "_law_turn", "_law_rings"] ["_law_bag_here", "_law_many", "_law_wide"] (defScope s_law_outlines) := ⟨rfl, rfl, rfl, by decide +kernel, rfl, by decide +kernel, by decide +kernel⟩
theorem ok_law_outlines (T : Tx K mg) : FnOk P w K mg base CX0 3 (He.fAd K ("_law_outlines", none)) T.fd_law_outlines ["_law_bag_here", "_law_many", "_law_wide"] (sp_law_outlines K w) := by
  have G_law_box := ok_law_box (P := P) (w := w) (base := base) T
  have G_law_draw := ok_law_draw (P := P) (w := w) (base := base) T
  refine T.F_law_outlines.ok sc_law_outlines (fun vs H Q E h => ?_) (fun cdv A outer s H0 vs Q E hr h => ?_)
  · obtain ⟨G, O, a1, w1, bag_here1, many1, wide1, rfl, _⟩ := h
    rfl
  · obtain ⟨G0, O, a1, w1, bag_here1, many1, wide1, rfl, S0, h1, res, hm, q⟩ := h
    refine ⟨_, PSs.nox (pss_cons (ps_set (i := 3) sc_law_outlines.nd rfl (.inl rfl) (pe_lst pa_nil))
      (pss_cons (ps_cut (ps_for PassesOwn.never rfl (pi_range1 (by rfl) T.z_range (pa_cons (pv 1) pa_nil)) (pg_name (i := 4) sc_law_outlines.nd rfl (.inl rfl))
      (pss_cons (ps_set (i := 5) sc_law_outlines.nd rfl (.inl rfl) (pe_lst (pa_cons (pe_call G_law_box (hr.mono (by decide)) (by rfl) T.g_law_box T.F_law_box.kp T.b_law_box .nil pass0 (pa_cons (pv 0) (pa_cons (pv 2) pa_nil))) pa_nil)))
      (pss_cons (ps_cut (ps_if (pt_cmpR op_eqI (pe_call G_law_draw (hr.mono (by decide)) (by rfl) T.g_law_draw T.F_law_draw.kp T.b_law_draw .nil pass0 (pa_cons (pv 0) (pa_cons pe_int pa_nil))) pe_int (nomark _)) (pss_one (ps_expr (pe_bm PySem.F.plainAttrs_list PySem.F.slot_list_append PySem.F.type_list_append mt_append (pv 5) (pa_cons (pe_call G_law_box (hr.mono (by decide)) (by rfl) T.g_law_box T.F_law_box.kp T.b_law_box .nil pass0 (pa_cons (pv 0) (pa_cons (pv 2) pa_nil))) pa_nil)))) pss_nil))
      (pss_one (ps_expr (pe_bm PySem.F.plainAttrs_list PySem.F.slot_list_append PySem.F.type_list_append mt_append (pv 3) (pa_cons (pv 5) pa_nil))))))))
      (pss_one (ps_ret (pv 3))))), ?_⟩
    have E0 := Ext.refl G0
    have hm0 : (Option.bind (rngM many1) fun xs1 =>
  Option.bind (folM (m_law_outlines_b1 wide1) xs1 (bag_here1, ([] : List (List (List (Int × Int)))))) fun (bag_here2, found1) =>
  some (found1, bag_here2)) = some res := hm
    refine gS_AsgN ?_
    refine gLst ?_
    refine gNil' ?_
    have h2 : Al (rM (rM (rP2 K rInt rInt))) G0 [] [] := True.intro
    refine q_lst S0 h2 (by show 0 ≤ 100000; decide) (fun a2 H1 w2 S1 h3 => ?_)
    obtain ⟨xs1, hq1, hm1⟩ := bindS hm0
    obtain ⟨⟨bag_here2, found1⟩, hl1, hm2⟩ := bindS hm1
    dsimp only at hm2
    refine gS_CS (fun (σ : L2.St) (H : Hp) => ∃ (G : Hp) (w3 : List V) (w4 : List V) (y1 : Option V) (y2 : Option V), Ext G0 G ∧ Sub G ((a1, HO.lst w3) :: (a2, HO.lst w4) :: O) H ∧ σ = [some (V.ref a1), some (V.int many1), some (V.int wide1), some (V.ref a2), y1, y2] ∧ Al rInt G w3 bag_here2 ∧ Al (rM (rM (rP2 K rInt rInt))) G w4 found1) ?_ ?_
    · skip
      refine gFor ?_
      refine gIR ?_
      refine gCons' ?_
      refine gV rfl ?_
      refine gNil' ?_
      have S2 : Sub G0 ((a1, HO.lst w1) :: (a2, HO.lst w2) :: O) H1 := S1.front 1 rfl rfl
      refine lp_R hq1 (fol_for Empty hl1) (fun (s : (List Int) × (List (List (List (Int × Int))))) (σ : L2.St) (H : Hp) => ∃ (G : Hp) (w3 : List V) (w4 : List V) (y1 : Option V) (y2 : Option V), Ext G0 G ∧ Sub G ((a1, HO.lst w3) :: (a2, HO.lst w4) :: O) H ∧ σ = [some (V.ref a1), some (V.int many1), some (V.int wide1), some (V.ref a2), y1, y2] ∧ Al rInt G w3 s.1 ∧ Al (rM (rM (rP2 K rInt rInt))) G w4 s.2) ⟨G0, w1, w2, _, _, (Ext.refl _), S2, rfl, h1, h3⟩ ?_ ?_
      · intro i1 x1 s1 b1 hb1 hr1 σ1 H2 hI1
        obtain ⟨s2, hb2, hb3⟩ := goF_some hb1
        subst hb3
        obtain ⟨bag_here3, found2⟩ := s1
        obtain ⟨G1, w5, w6, y3, y4, e1, S3, rfl, h5, h6⟩ := hI1
        have E1 := E0.trans e1
        have hm3 : (Option.bind (m_law_box bag_here3 wide1) fun (r1, bag_here4) =>   Option.bind (Option.bind (m_law_draw bag_here4 (2 : Int)) fun (r4, bag_here8) =>   if (decide (r4 = (1 : Int))) then (Option.bind (m_law_box bag_here8 wide1) fun (r5, bag_here9) =>   Option.bind (appM ([r1] : List (List (Int × Int))) r5) fun rings3 =>   some (bag_here9, rings3))   else (some (bag_here8, ([r1] : List (List (Int × Int)))))) fun (bag_here7, rings2) =>   Option.bind (appM found2 rings2) fun found3 =>   some (bag_here7, found3)) = some s2 := hb2
        refine gS_AsgN ?_
        refine gLst ?_
        refine gCons' ?_
        refine gCall ?_
        refine gCons' ?_
        refine gV rfl ?_
        refine gCons' ?_
        refine gV rfl ?_
        refine gNil' ?_
        obtain ⟨⟨r1, bag_here4⟩, hq2, hm4⟩ := bindS hm3
        dsimp only at hm4
        refine ⟨G1, ((a2, HO.lst w6) :: O), a1, w5, bag_here3, wide1, rfl, S3, h5, (r1, bag_here4), hq2, fun v2 G2 H3 w7 e2 S4 h7 h8 => ?_⟩
        have h9 := Al.up e2 h6
        have E2 := E1.trans e2
        refine gNil' ?_
        have h10 : Al (rM (rP2 K rInt rInt)) G2 [v2] [r1] := ⟨h7, True.intro⟩
        refine q_lst S4 h10 (by show 1 ≤ 100000; decide) (fun a3 H4 w8 S5 h11 => ?_)
        obtain ⟨⟨bag_here7, rings2⟩, hq6, hm8⟩ := bindS hm4
        dsimp only at hm8
        refine gS_CS (fun (σ : L2.St) (H : Hp) => ∃ (G : Hp) (w12 : List V) (w13 : List V), Ext G2 G ∧ Sub G ((a1, HO.lst w12) :: (a3, HO.lst w13) :: (a2, HO.lst w6) :: O) H ∧ σ = [some (V.ref a1), some (V.int many1), some (V.int wide1), some (V.ref a2), some (V.int x1), some (V.ref a3)] ∧ Al rInt G w12 bag_here7 ∧ Al (rM (rP2 K rInt rInt)) G w13 rings2) ?_ ?_
        · skip
          refine gIfS ?_
          refine gTest ?_
          refine gOp ?_
          refine gCall ?_
          refine gCons' ?_
          refine gV rfl ?_
          refine gCons' ?_
          refine gC ?_
          refine gNil' ?_
          have S13 : Sub G2 ((a1, HO.lst w7) :: (a3, HO.lst w8) :: (a2, HO.lst w6) :: O) H4 := S5.front 1 rfl rfl
          obtain ⟨⟨r4, bag_here8⟩, hq7, hm9⟩ := bindS hq6
          dsimp only at hm9
          refine ⟨G2, ((a3, HO.lst w8) :: (a2, HO.lst w6) :: O), a1, w7, bag_here4, (2 : Int), rfl, S13, h8, (r4, bag_here8), hq7, fun G5 H8 w14 e5 S14 h20 => ?_⟩
          have h21 := Al.up e5 h9
          have h22 := Al.up e5 h11
          have E5 := E2.trans e5
          refine gC ?_
          refine ⟨_, _, rfl, rfl, ?_⟩
          refine ⟨(decide (r4 = (1 : Int))), rfl, ?_⟩
          refine ite2 (fun c1 => ?_) (fun c1 => ?_)
          · skip
            have hm10 := (if_pos c1).symm.trans hm9
            refine gDrop ?_
            refine gBM ?_
            refine gV rfl ?_
            have S15 : Sub G5 ((a3, HO.lst w8) :: (a1, HO.lst w14) :: (a2, HO.lst w6) :: O) H8 := S14.front 1 rfl rfl
            refine ⟨.inl ⟨rfl, _, .inl (.inl S15.head)⟩, ?_⟩
            refine gCons' ?_
            refine gCall ?_
            refine gCons' ?_
            refine gV rfl ?_
            refine gCons' ?_
            refine gV rfl ?_
            refine gNil' ?_
            have S16 : Sub G5 ((a1, HO.lst w14) :: (a3, HO.lst w8) :: (a2, HO.lst w6) :: O) H8 := S15.front 1 rfl rfl
            obtain ⟨⟨r5, bag_here9⟩, hq8, hm11⟩ := bindS hm10
            dsimp only at hm11
            refine ⟨G5, ((a3, HO.lst w8) :: (a2, HO.lst w6) :: O), a1, w14, bag_here8, wide1, rfl, S16, h20, (r5, bag_here9), hq8, fun v4 G6 H9 w15 e6 S17 h23 h24 => ?_⟩
            have h25 := Al.up e6 h21
            have h26 := Al.up e6 h22
            have E6 := E5.trans e6
            refine gNil' ?_
            obtain ⟨rings3, hq9, hm12⟩ := bindS hm11
            have S18 : Sub G6 ((a3, HO.lst w8) :: (a1, HO.lst w15) :: (a2, HO.lst w6) :: O) H9 := S17.front 1 rfl rfl
            refine q_app S18 h26 (show R.rel (rM (rP2 K rInt rInt)) G6 v4 r5 from h23) hq9 (fun H10 w16 S19 h27 => ?_)
            have S20 : Sub G6 ((a2, HO.lst w6) :: (a3, HO.lst w16) :: (a1, HO.lst w15) :: O) H10 := S19.front 2 rfl rfl
            have S21 : Sub G6 ((a3, HO.lst w16) :: (a2, HO.lst w6) :: (a1, HO.lst w15) :: O) H10 := S20.front 1 rfl rfl
            have S22 : Sub G6 ((a1, HO.lst w15) :: (a3, HO.lst w16) :: (a2, HO.lst w6) :: O) H10 := S21.front 2 rfl rfl
            cases hm12
            exact ⟨G6, w15, w16, (e5.trans e6), S22, rfl, h24, h27⟩
          · skip
            have hm13 := (if_neg c1).symm.trans hm9
            refine gNext ?_
            cases hm13
            exact ⟨G5, w14, w8, e5, S14, rfl, h20, h22⟩
        · intro σ2 H11 hJ1
          obtain ⟨G7, w17, w18, e7, S23, rfl, h28, h29⟩ := hJ1
          have h30 := Al.up e7 h9
          have E7 := E2.trans e7
          refine gDrop ?_
          refine gBM ?_
          refine gV rfl ?_
          have S24 : Sub G7 ((a2, HO.lst w6) :: (a1, HO.lst w17) :: (a3, HO.lst w18) :: O) H11 := S23.front 2 rfl rfl
          refine ⟨.inl ⟨rfl, _, .inl (.inl S24.head)⟩, ?_⟩
          refine gCons' ?_
          refine gV rfl ?_
          refine gNil' ?_
          have S25 : Sub G7 ((a3, HO.lst w18) :: (a2, HO.lst w6) :: (a1, HO.lst w17) :: O) H11 := S24.front 2 rfl rfl
          obtain ⟨G8, e8, S26, h31⟩ := frz_M S25 h29
          have h32 := Al.up e8 h28
          have h33 := Al.up e8 h30
          have E8 := E7.trans e8
          obtain ⟨found3, hq10, hm14⟩ := bindS hm8
          refine q_app S26 h33 (show R.rel (rM (rM (rP2 K rInt rInt))) G8 (V.ref a3) rings2 from h31) hq10 (fun H12 w19 S27 h34 => ?_)
          have S28 : Sub G8 ((a1, HO.lst w17) :: (a2, HO.lst w19) :: O) H12 := S27.front 1 rfl rfl
          cases hm14
          exact ⟨(bag_here7, found3), ⟨G8, w17, w19, _, _, (((e1.trans e2).trans e7).trans e8), S28, rfl, h32, h34⟩, hr1⟩
      · intro s σ H h1 h2
        cases h1
        obtain ⟨G, k1, k2, k3, k4, ie, irest⟩ := h2
        exact ⟨G, k1, k2, k3, k4, (ie), irest⟩
    · intro σ3 H13 hJ2
      obtain ⟨G9, w20, w21, y5, y6, e9, S29, rfl, h35, h36⟩ := hJ2
      have E9 := E0.trans e9
      refine gRet ?_
      refine gV rfl ?_
      have S30 : Sub G9 ((a2, HO.lst w21) :: (a1, HO.lst w20) :: O) H13 := S29.front 1 rfl rfl
      obtain ⟨G10, e10, S31, h37⟩ := frz_M S30 h36
      have h38 := Al.up e10 h35
      have E10 := E9.trans e10
      cases hm2
      exact q (V.ref a2) G10 H13 w20 E10 S31 h37 h38
end
end Mr

set_option Elab.async false
set_option linter.all false
set_option maxRecDepth 100000
set_option maxHeartbeats 4000000
set_option synthInstance.maxSize 4000
set_option synthInstance.maxHeartbeats 400000
namespace Mr
open PySem PySem.Spec PyProof.Rows L2 GFr
section
variable {P : Program} {w : World} {K : PySem.W.Frag} {mg : Str → Option Value} {base : Heap}
theorem sc_law_word_of : FnScope ["_law_number", "_law_many", "_law_length", "_law_word", "_law_turn"] ["_law_number", "_law_many", "_law_length"] (defScope s_law_word_of) := ⟨rfl, rfl, rfl, by decide +kernel, rfl, by decide +kernel, by decide +kernel⟩
theorem ok_law_word_of (T : Tx K mg) : FnOk P w K mg base CX0 1 (He.fAd K ("_law_word_of", none)) T.fd_law_word_of ["_law_number", "_law_many", "_law_length"] (sp_law_word_of K w) := by
  refine T.F_law_word_of.ok sc_law_word_of (fun vs H Q E h => ?_) (fun cdv A outer s H0 vs Q E hr h => ?_)
  · obtain ⟨G, O, number1, many1, length1, rfl, _⟩ := h
    rfl
  · obtain ⟨G0, O, number1, many1, length1, rfl, S0, res, hm, q⟩ := h
    refine ⟨_, PSs.nox (pss_cons (ps_set (i := 3) sc_law_word_of.nd rfl (.inl rfl) (pe_strT (l := ([] : Wrd)) (by decide +kernel)))
      (pss_cons (ps_cut (ps_for PassesOwn.never rfl (pi_range1 (by rfl) T.z_range (pa_cons (pv 2) pa_nil)) (pg_name (i := 4) sc_law_word_of.nd rfl (.inl rfl))
      (pss_cons (ps_set (i := 3) sc_law_word_of.nd rfl (.inl rfl) (pe_op op_addT (pe_ix ix_str (pe_strT (l := ([97, 98, 99, 100] : Wrd)) (by decide +kernel)) (pe_op op_mod (pe_callTy call_int1 (by rfl) T.z_int boot_int (pa_cons (pv 0) pa_nil)) (pv 1)) (fun _ _ => rfl)) (pv 3)))
      (pss_one (ps_set (i := 0) sc_law_word_of.nd rfl (.inl rfl) (pe_op op_fdivW (pv 0) (pv 1)))))))
      (pss_one (ps_ret (pv 3))))), ?_⟩
    have E0 := Ext.refl G0
    have hm0 : (Option.bind (rngM length1) fun xs1 =>
  Option.bind (folM (m_law_word_of_b1 many1) xs1 (number1, ([] : Wrd))) fun (number2, word1) =>
  some word1) = some res := hm
    refine gS_AsgN ?_
    refine gC ?_
    obtain ⟨xs1, hq1, hm1⟩ := bindS hm0
    obtain ⟨⟨number2, word1⟩, hl1, hm2⟩ := bindS hm1
    dsimp only at hm2
    refine gS_CS (fun (σ : L2.St) (H : Hp) => ∃ (G : Hp) (y1 : Option V), Ext G0 G ∧ Sub G (O) H ∧ σ = [some (V.int number2), some (V.int many1), some (V.int length1), some (V.str (e_T word1)), y1]) ?_ ?_
    · skip
      refine gFor ?_
      refine gIR ?_
      refine gCons' ?_
      refine gV rfl ?_
      refine gNil' ?_
      refine lp_R hq1 (fol_for Empty hl1) (fun (s : Int × Wrd) (σ : L2.St) (H : Hp) => ∃ (G : Hp) (y1 : Option V), Ext G0 G ∧ Sub G (O) H ∧ σ = [some (V.int s.1), some (V.int many1), some (V.int length1), some (V.str (e_T s.2)), y1]) ⟨G0, _, (Ext.refl _), S0, rfl⟩ ?_ ?_
      · intro i1 x1 s1 b1 hb1 hr1 σ1 H1 hI1
        obtain ⟨s2, hb2, hb3⟩ := goF_some hb1
        subst hb3
        obtain ⟨number3, word2⟩ := s1
        obtain ⟨G1, y2, e1, S1, rfl⟩ := hI1
        have E1 := E0.trans e1
        have hm3 : (Option.bind (modM number3 many1) fun x2 =>   Option.bind (getT ([97, 98, 99, 100] : Wrd) x2) fun t1 =>   Option.bind (catT t1 word2) fun t2 =>   Option.bind (fdivM number3 many1) fun x3 =>   some (x3, t2)) = some s2 := hb2
        refine gS_AsgN ?_
        refine gOp ?_
        refine gOp ?_
        refine gC ?_
        refine gOp ?_
        refine gCB ?_
        refine gCons' ?_
        refine gV rfl ?_
        refine gNil' ?_
        refine .inl ⟨_, rfl, ?_⟩
        refine gV rfl ?_
        obtain ⟨x2, hq2, hm4⟩ := bindS hm3
        refine q_mod hq2 ?_
        obtain ⟨t1, hq3, hm5⟩ := bindS hm4
        refine q_ixTx hq3 ?_
        refine gV rfl ?_
        obtain ⟨t2, hq4, hm6⟩ := bindS hm5
        refine q_catT hq4 ?_
        refine gAsgN ?_
        refine gOp ?_
        refine gV rfl ?_
        refine gV rfl ?_
        obtain ⟨x3, hq5, hm7⟩ := bindS hm6
        refine q_fdiv hq5 ?_
        cases hm7
        exact ⟨(x3, t2), ⟨G1, _, e1, S1, rfl⟩, hr1⟩
      · intro s σ H h1 h2
        cases h1
        obtain ⟨G, k1, ie, irest⟩ := h2
        exact ⟨G, k1, (ie), irest⟩
    · intro σ2 H2 hJ1
      obtain ⟨G2, y3, e2, S2, rfl⟩ := hJ1
      have E2 := E0.trans e2
      refine gRet ?_
      refine gV rfl ?_
      cases hm2
      exact q G2 H2 E2 S2
end
end Mr

set_option Elab.async false
set_option linter.all false
set_option maxRecDepth 100000
set_option maxHeartbeats 4000000
set_option synthInstance.maxSize 4000
set_option synthInstance.maxHeartbeats 400000
namespace Mr
open PySem PySem.Spec PyProof.Rows L2 GFr
section
variable {P : Program} {w : World} {K : PySem.W.Frag} {mg : Str → Option Value} {base : Heap}
theorem sc_law_all : FnScope ["_law_many", "_law_least", "_law_most", "_law_found", "_law_count", "_law_length", "_law_number"] ["_law_many", "_law_least", "_law_most"] (defScope s_law_all) := ⟨rfl, rfl, rfl, by decide +kernel, rfl, by decide +kernel, by decide +kernel⟩
theorem ok_law_all (T : Tx K mg) : FnOk P w K mg base CX0 2 (He.fAd K ("_law_all", none)) T.fd_law_all ["_law_many", "_law_least", "_law_most"] (sp_law_all K w) := by
  have G_law_word_of := ok_law_word_of (P := P) (w := w) (base := base) T
  refine T.F_law_all.ok sc_law_all (fun vs H Q E h => ?_) (fun cdv A outer s H0 vs Q E hr h => ?_)
  · obtain ⟨G, O, many1, least1, most1, rfl, _⟩ := h
    rfl
  · obtain ⟨G0, O, many1, least1, most1, rfl, S0, res, hm, q⟩ := h
    refine ⟨_, PSs.nox (pss_cons (ps_par (i := 3) (j := 4) (by rfl) sc_law_all.nd rfl rfl (by decide) rfl rfl (pa_cons (pe_lst pa_nil) (pa_cons pe_int pa_nil)) (by rfl))
      (pss_cons (ps_cut (ps_for PassesOwn.never rfl (pi_range2 (by rfl) T.z_range (pa_cons pe_int (pa_cons (pe_op op_add (pv 2) pe_int) pa_nil))) (pg_name (i := 5) sc_law_all.nd rfl (.inr rfl))
      (pss_cons (ps_set (i := 4) sc_law_all.nd rfl (.inl rfl) (pe_op op_mul (pv 4) (pv 0)))
      (pss_one (ps_cut (ps_if (pt_cmpR op_ge (pv 5) (pv 1) (nomark _)) (pss_one (ps_expr (pe_bm PySem.F.plainAttrs_list PySem.F.slot_list_extend PySem.F.type_list_extend mt_extend (pv 3) (pa_cons (pe_lc (own := [("_law_number", 6)]) (g := gName 6) (by rfl) sc_law_all.nd (pi_range1 (by rfl) T.z_range (pa_cons (pv 4) pa_nil)) (blkOk_by (own := [("_law_number", 6)]) (N := ["_law_many", "_law_least", "_law_most", "_law_found", "_law_count", "_law_length", "_law_number"]) (sc := defScope s_law_all) (by decide +kernel)) (fun _ _ _ _ _ => (pg_name (i := 6) sc_law_all.nd rfl (.inl rfl))) (fun _ _ _ _ _ => pts_nil) (fun _ _ _ _ _ => (pe_call G_law_word_of (hr.mono (by decide)) (by rfl) T.g_law_word_of T.F_law_word_of.kp T.b_law_word_of .nil pass0 (pa_cons (pv 6) (pa_cons (pv 0) (pa_cons (pv 5) pa_nil)))))) pa_nil)))) pss_nil))))))
      (pss_one (ps_ret (pv 3))))), ?_⟩
    have E0 := Ext.refl G0
    have hm0 : (Option.bind (rng2M (1 : Int) (most1 + (1 : Int))) fun xs1 =>
  Option.bind (folM (m_law_all_b1 many1 least1) xs1 (([] : List Wrd), (1 : Int))) fun (found1, count1) =>
  some found1) = some res := hm
    refine gS_Par ?_
    refine gCons' ?_
    refine gLst ?_
    refine gNil' ?_
    have h1 : Al rTx G0 [] [] := True.intro
    refine q_lst S0 h1 (by show 0 ≤ 100000; decide) (fun a1 H1 w1 S1 h2 => ?_)
    refine gCons' ?_
    refine gC ?_
    refine gNil' ?_
    refine ⟨_, _, rfl, ?_⟩
    obtain ⟨xs1, hq1, hm1⟩ := bindS hm0
    obtain ⟨⟨found1, count1⟩, hl1, hm2⟩ := bindS hm1
    dsimp only at hm2
    refine gS_CS (fun (σ : L2.St) (H : Hp) => ∃ (G : Hp) (w2 : List V) (y1 : Option V) (y2 : Option V), Ext G0 G ∧ Sub G ((a1, HO.lst w2) :: O) H ∧ σ = [some (V.int many1), some (V.int least1), some (V.int most1), some (V.ref a1), some (V.int count1), y1, y2] ∧ Al rTx G w2 found1) ?_ ?_
    · skip
      refine gFor ?_
      refine gIR2 ?_
      refine gCons' ?_
      refine gC ?_
      refine gCons' ?_
      refine gOp ?_
      refine gV rfl ?_
      refine gC ?_
      refine ⟨_, _, rfl, rfl, ?_⟩
      refine gNil' ?_
      refine lp_R2 hq1 (fol_for Empty hl1) (fun (s : (List Wrd) × Int) (σ : L2.St) (H : Hp) => ∃ (G : Hp) (w2 : List V) (y1 : Option V) (y2 : Option V), Ext G0 G ∧ Sub G ((a1, HO.lst w2) :: O) H ∧ σ = [some (V.int many1), some (V.int least1), some (V.int most1), some (V.ref a1), some (V.int s.2), y1, y2] ∧ Al rTx G w2 s.1) ⟨G0, w1, _, _, (Ext.refl _), S1, rfl, h2⟩ ?_ ?_
      · intro i1 x1 s1 b1 hb1 hr1 σ1 H2 hI1
        obtain ⟨s2, hb2, hb3⟩ := goF_some hb1
        subst hb3
        obtain ⟨found2, count2⟩ := s1
        obtain ⟨G1, w3, y3, y4, e1, S2, rfl, h4⟩ := hI1
        have E1 := E0.trans e1
        have hm3 : (Option.bind (mulM count2 many1) fun x2 =>   Option.bind (if (decide (x1 ≥ least1)) then (Option.bind (rngM x2) fun xs3 =>   Option.bind (folM (m_law_all_c2 many1 x1) xs3 ([] : (List Wrd))) fun acc4 =>   Option.bind (catM found2 acc4) fun found5 =>   some found5)   else (some found2)) fun found4 =>   some (found4, x2)) = some s2 := hb2
        refine gS_AsgN ?_
        refine gOp ?_
        refine gV rfl ?_
        refine gV rfl ?_
        obtain ⟨x2, hq2, hm4⟩ := bindS hm3
        refine q_mul hq2 ?_
        obtain ⟨found4, hq9, hm12⟩ := bindS hm4
        refine gCS (fun (σ : L2.St) (H : Hp) => ∃ (G : Hp) (w9 : List V) (y5 : Option V), Ext G1 G ∧ Sub G ((a1, HO.lst w9) :: O) H ∧ σ = [some (V.int many1), some (V.int least1), some (V.int most1), some (V.ref a1), some (V.int x2), some (V.int x1), y5] ∧ Al rTx G w9 found4) ?_ ?_
        · skip
          refine gIfS ?_
          refine gTest ?_
          refine gOp ?_
          refine gV rfl ?_
          refine gV rfl ?_
          refine ⟨_, _, rfl, rfl, ?_⟩
          refine ⟨(decide (x1 ≥ least1)), rfl, ?_⟩
          refine ite2 (fun c1 => ?_) (fun c1 => ?_)
          · skip
            have hm13 := (if_pos c1).symm.trans hq9
            refine gDrop ?_
            refine gBM ?_
            refine gV rfl ?_
            refine ⟨.inl ⟨rfl, _, .inl (.inl S2.head)⟩, ?_⟩
            refine gCons' ?_
            refine gLc ?_
            refine gIR ?_
            refine gCons' ?_
            refine gV rfl ?_
            refine gNil' ?_
            obtain ⟨xs3, hq10, hm14⟩ := bindS hm13
            obtain ⟨acc4, hq12, hm16⟩ := bindS hm14
            refine lc_R hq10 hq12 (fun (D : Addr) (s : (List Wrd)) (H : Hp) => ∃ (G : Hp) (w10 : List V), Ext G1 G ∧ Sub G ((D, HO.lst w10) :: (a1, HO.lst w3) :: O) H ∧ Al rTx G w10 s) ?_ ?_ ?_
            · intro D4 nD2
              exact ⟨G1, [], Ext.refl _, S2.newOwn nD2, True.intro⟩
            · intro D5 i3 x4 acc5 s6 hb5 hr3 H10 hI4
              obtain ⟨G7, w11, e7, S11, h17⟩ := hI4
              have h18 := Al.up e7 h4
              have E7 := E1.trans e7
              refine ⟨rfl, ?_⟩
              have hm17 : (Option.bind (m_law_word_of x4 many1 x1) fun r4 =>   Option.bind (appM acc5 r4) fun acc6 =>   some acc6) = some s6 := hb5
              refine gYes ?_
              refine iteT ?_
              refine gCall ?_
              refine gCons' ?_
              refine gV rfl ?_
              refine gCons' ?_
              refine gV rfl ?_
              refine gCons' ?_
              refine gV rfl ?_
              refine gNil' ?_
              obtain ⟨r4, hq13, hm18⟩ := bindS hm17
              refine ⟨G7, ((D5, HO.lst w11) :: (a1, HO.lst w3) :: O), x4, many1, x1, rfl, S11, r4, hq13, fun G8 H11 e8 S12 => ?_⟩
              have h19 := Al.up e8 h18
              have h20 := Al.up e8 h17
              have E8 := E7.trans e8
              obtain ⟨acc6, hq14, hm19⟩ := bindS hm18
              refine q_lcEl S12 h20 (show R.rel rTx G8 (V.str (e_T r4)) r4 from rfl) hq14 (fun H12 w12 S13 h21 => ?_)
              cases hm19
              exact ⟨_, ⟨G8, w12, (e7.trans e8), S13, h21⟩, hr3⟩
            · intro D6 H13 hI5
              obtain ⟨G9, w13, e9, S14, h22⟩ := hI5
              have h23 := Al.up e9 h4
              have E9 := E1.trans e9
              refine gNil' ?_
              obtain ⟨found5, hq15, hm20⟩ := bindS hm16
              have S15 : Sub G9 ((a1, HO.lst w3) :: (D6, HO.lst w13) :: O) H13 := S14.front 1 rfl rfl
              refine q_extO S15 h23 h22 hq15 (fun H14 w14 S16 h24 => ?_)
              cases hm20
              exact ⟨G9, w14, _, e9, S16, rfl, h24⟩
          · skip
            have hm21 := (if_neg c1).symm.trans hq9
            refine gNext ?_
            cases hm21
            exact ⟨G1, w3, _, (Ext.refl _), S2, rfl, h4⟩
        · intro σ2 H15 hJ1
          obtain ⟨G10, w15, y6, e10, S17, rfl, h25⟩ := hJ1
          have E10 := E1.trans e10
          cases hm12
          exact ⟨(found4, x2), ⟨G10, w15, _, _, (e1.trans e10), S17, rfl, h25⟩, hr1⟩
      · intro s σ H h1 h2
        cases h1
        obtain ⟨G, k1, k2, k3, ie, irest⟩ := h2
        exact ⟨G, k1, k2, k3, (ie), irest⟩
    · intro σ3 H16 hJ2
      obtain ⟨G11, w16, y7, y8, e11, S18, rfl, h26⟩ := hJ2
      have E11 := E0.trans e11
      refine gRet ?_
      refine gV rfl ?_
      obtain ⟨G12, e12, S19, h27⟩ := frz_M S18 h26
      have E12 := E11.trans e12
      cases hm2
      exact q (V.ref a1) G12 H16 E12 S19 h27
end
end Mr

set_option Elab.async false
set_option linter.all false
set_option maxRecDepth 100000
set_option maxHeartbeats 4000000
set_option synthInstance.maxSize 4000
set_option synthInstance.maxHeartbeats 400000
namespace Mr
open PySem PySem.Spec PyProof.Rows L2 GFr
section
variable {P : Program} {w : World} {K : PySem.W.Frag} {mg : Str → Option Value} {base : Heap}
theorem sc_law_begin : FnScope ["_law_face", "_law_most", "_law_least", "_law_stop", "_law_found", "_law_word"] ["_law_face", "_law_most", "_law_least", "_law_stop"] (defScope s_law_begin) := ⟨rfl, rfl, rfl, by decide +kernel, rfl, by decide +kernel, by decide +kernel⟩
theorem ok_law_begin (T : Tx K mg) : FnOk P w K mg base CX0 7 (He.fAd K ("_law_begin", none)) T.fd_law_begin ["_law_face", "_law_most", "_law_least", "_law_stop"] (sp_law_begin K w) := by
  have kb_words_up_to_least := kb_words_up_to_least_ T
  refine T.F_law_begin.ok sc_law_begin (fun vs H Q E h => ?_) (fun cdv A outer s H0 vs Q E hr h => ?_)
  · obtain ⟨G, O, v1, face1, most1, least1, stop1, rfl, _⟩ := h
    rfl
  · obtain ⟨G0, O, v1, face1, most1, least1, stop1, rfl, S0, h1, res, hm, q⟩ := h
    refine ⟨_, PSs.nox (pss_cons (ps_set (i := 4) sc_law_begin.nd rfl (.inl rfl) (pe_lst pa_nil))
      (pss_cons (ps_cut (ps_forG (r := rTx) (sp := spG_words K) (ci := 0) hr rfl (fun cd L go cv ok => gok_words_up_to T ((hr.mono (by decide) : Room 4 _)).in1 ok) (pmk_callN T.F_words_up_to sc_words_up_to hcl_words rfl rfl (by decide) (hr.mono (by decide) : Room 3 _) rfl hr.hd (by rfl) T.g_words_up_to T.F_words_up_to.kp kb_words_up_to_least (pa_cons (pv 0) (pa_cons (pv 1) pa_nil)) (pk_cons (pv 2) pk_nil)) (pg_name (i := 5) sc_law_begin.nd rfl (.inl rfl))
      (pss_cons (ps_if (pt_cmpR op_ge (pe_callB (r := rLenM K) call_lenM (by rfl) T.z_len boot_len (pa_cons (pv 4) pa_nil)) (pv 3) (nomark _)) (pss_one ps_break) pss_nil)
      (pss_one (ps_expr (pe_bm PySem.F.plainAttrs_list PySem.F.slot_list_append PySem.F.type_list_append mt_append (pv 4) (pa_cons (pv 5) pa_nil)))))))
      (pss_one (ps_ret (pv 4))))), ?_⟩
    have E0 := Ext.refl G0
    have hm0 : (Option.bind (m_words_up_to face1 most1 least1) fun r2 =>
  Option.bind (forL (m_law_begin_b1 stop1) r2 ([] : List Wrd)) fun res => match res with
  | Fl.rt r => some r
  | Fl.nx found1 => some found1) = some res := hm
    refine gS_AsgN ?_
    refine gLst ?_
    refine gNil' ?_
    have h2 : Al rTx G0 [] [] := True.intro
    refine q_lst S0 h2 (by show 0 ≤ 100000; decide) (fun a1 H1 w1 S1 h3 => ?_)
    obtain ⟨r2, hq2, hm2⟩ := bindS hm0
    obtain ⟨res1, hl1, hm3⟩ := bindS hm2
    refine gS_CS (fun (σ : L2.St) (H : Hp) => ∃ s : (List Wrd), res1 = Fl.nx s ∧ ∃ (G : Hp) (w2 : List V) (y1 : Option V), Ext G0 G ∧ Sub G ((a1, HO.lst w2) :: O) H ∧ σ = [some v1, some (V.int most1), some (V.int least1), some (V.int stop1), some (V.ref a1), y1] ∧ Al rTx G w2 s) ?_ ?_
    · skip
      refine gForG ?_
      refine gMkN ?_
      refine gCons' ?_
      refine gV rfl ?_
      refine gCons' ?_
      refine gV rfl ?_
      refine gNil' ?_
      refine gCons' ?_
      refine gV rfl ?_
      refine gNil' ?_
      refine ⟨rfl, rfl, rfl, ?_⟩
      have e2 := Ext.refl G0
      have S3 := S1
      have h8 := R.up e2 h1
      have h9 := Al.up e2 h3
      have E2 := E0.trans e2
      have hp1 : ∀ (Gb : Hp) (s : (List Wrd)) (σ : L2.St) (H : Hp), (fun (Gb : Hp) (s : (List Wrd)) (σ : L2.St) (H : Hp) => ∃ (G : Hp) (w2 : List V) (y1 : Option V), Ext Gb G ∧ Sub G ((a1, HO.lst w2) :: O) H ∧ σ = [some v1, some (V.int most1), some (V.int least1), some (V.int stop1), some (V.ref a1), y1] ∧ Al rTx G w2 s) Gb s σ H → ∃ W : Wo, W.H = H ∧ Ext Gb W.G ∧ Sub W.G W.O W.H ∧ (fun (s : (List Wrd)) (σ : L2.St) (W : Wo) => ∃ (w2 : List V) (y1 : Option V), W.O = ((a1, HO.lst w2) :: O) ∧ σ = [some v1, some (V.int most1), some (V.int least1), some (V.int stop1), some (V.ref a1), y1] ∧ Al rTx W.G w2 s) s σ W := by
        intro Gb s σ H hI
        obtain ⟨G, k0, k1, ie, iS, irest⟩ := hI
        exact ⟨⟨G, _, H⟩, rfl, ie, iS, k0, k1, rfl, irest⟩
      refine lp_Gt (G := G0) (fun W e => ⟨v1, face1, most1, least1, rfl, R.up e h8, hq2⟩) hl1 (fun (Gb : Hp) (s : (List Wrd)) (σ : L2.St) (H : Hp) => ∃ (G : Hp) (w2 : List V) (y1 : Option V), Ext Gb G ∧ Sub G ((a1, HO.lst w2) :: O) H ∧ σ = [some v1, some (V.int most1), some (V.int least1), some (V.int stop1), some (V.ref a1), y1] ∧ Al rTx G w2 s) (fun (s : (List Wrd)) (σ : L2.St) (W : Wo) => ∃ (w2 : List V) (y1 : Option V), W.O = ((a1, HO.lst w2) :: O) ∧ σ = [some v1, some (V.int most1), some (V.int least1), some (V.int stop1), some (V.ref a1), y1] ∧ Al rTx W.G w2 s) hp1 ?_ ?_ ⟨G0, w1, _, (Ext.refl _), S3, rfl, h9⟩ ?_ ?_
      · intro s σ W G1 H1 hJ e S
        obtain ⟨Gw, Ow, Hw⟩ := W
        obtain ⟨k0, k1, rfl, hσ, r0_⟩ := hJ
        exact ⟨G1, k0, k1, Ext.refl _, S, hσ, Al.up e r0_⟩
      · intro Ga Gb s σ H e hI
        obtain ⟨G, k0, k1, ie, irest⟩ := hI
        exact ⟨G, k0, k1, e.trans ie, irest⟩
      · intro i1 x1 found2 b1 hb1 hr1 v4 σ1 H4 Gb1 eb1 hI1 h10
        obtain ⟨G3, w3, y2, e3, S4, rfl, h11⟩ := hI1
        have h12 := R.up (eb1.trans e3) h8
        have E3 := E2.trans (eb1.trans e3)
        obtain rfl := (show v4 = (V.str (e_T x1)) from h10)
        have hm4 : (if (decide ((found2.length : Int) ≥ stop1)) then (some (Bf.bk found2))   else (Option.bind (appM found2 x1) fun found3 =>   some (Bf.go found3))) = some b1 := hb1
        refine gS_IfS ?_
        refine gTest ?_
        refine gOp ?_
        refine gCB ?_
        refine gCons' ?_
        refine gV rfl ?_
        refine gNil' ?_
        refine q_lenO S4 h11 ?_
        refine gV rfl ?_
        refine ⟨_, _, rfl, rfl, ?_⟩
        refine ⟨(decide ((found2.length : Int) ≥ stop1)), rfl, ?_⟩
        refine ite2 (fun c1 => ?_) (fun c1 => ?_)
        · skip
          have hm5 := (if_pos c1).symm.trans hm4
          cases hm5
          exact ⟨_, (Option.some.inj hr1).symm, ⟨G3, w3, _, (e2.trans (eb1.trans e3)), S4, rfl, h11⟩⟩
        · skip
          have hm6 := (if_neg c1).symm.trans hm4
          refine gNext ?_
          refine gE ?_
          refine gDrop ?_
          refine gBM ?_
          refine gV rfl ?_
          refine ⟨.inl ⟨rfl, _, .inl (.inl S4.head)⟩, ?_⟩
          refine gCons' ?_
          refine gV rfl ?_
          refine gNil' ?_
          obtain ⟨found3, hq3, hm7⟩ := bindS hm6
          refine q_app S4 h11 (show R.rel rTx G3 (V.str (e_T x1)) x1 from rfl) hq3 (fun H5 w4 S5 h14 => ?_)
          cases hm7
          exact nxG hp1 ⟨_, ⟨G3, w4, _, e3, S5, rfl, h14⟩, hr1⟩
      · intro s σ H h1 h2
        obtain ⟨G, k1, k2, ie, irest⟩ := h2
        exact ⟨s, h1, G, k1, k2, (e2.trans ie), irest⟩
    · intro σ2 H6 hJ1
      obtain ⟨found1, hres1, hJ2⟩ := hJ1
      subst hres1
      dsimp only at hm3
      obtain ⟨G4, w5, y3, e4, S6, rfl, h15⟩ := hJ2
      have h16 := R.up e4 h1
      have E4 := E0.trans e4
      refine gRet ?_
      refine gV rfl ?_
      obtain ⟨G5, e5, S7, h17⟩ := frz_M S6 h15
      have h18 := R.up e5 h16
      have E5 := E4.trans e5
      cases hm3
      exact q (V.ref a1) G5 H6 E5 S7 h17
end
end Mr

set_option Elab.async false
set_option linter.all false
set_option maxRecDepth 100000
set_option maxHeartbeats 4000000
set_option synthInstance.maxSize 4000
set_option synthInstance.maxHeartbeats 400000
namespace Mr
open PySem PySem.Spec PyProof.Rows L2 GFr
section
variable {P : Program} {w : World} {K : PySem.W.Frag} {mg : Str → Option Value} {base : Heap}
theorem sc_law_stands : FnScope ["_law_one_here", "_law_two", "_law_many", "_law_other", "_law_most", "_law_least", "_law_due", "_law_more", "_law_inside", "_law_word", "_law_stop"] ["_law_one_here", "_law_two", "_law_many", "_law_other", "_law_most", "_law_least"] (defScope s_law_stands) := ⟨rfl, rfl, rfl, by decide +kernel, rfl, by decide +kernel, by decide +kernel⟩
theorem ok_law_stands (T : Tx K mg) : FnOk P w K mg base CX0 8 (He.fAd K ("_law_stands", none)) T.fd_law_stands ["_law_one_here", "_law_two", "_law_many", "_law_other", "_law_most", "_law_least"] (sp_law_stands K w) := by
  have G_law_all := ok_law_all (P := P) (w := w) (base := base) T
  have G_law_begin := ok_law_begin (P := P) (w := w) (base := base) T
  obtain ⟨ds_words_up_to, vd_words_up_to, bd_words_up_to⟩ := bds_words_up_to T
  have kb_words_up_to_least := kb_words_up_to_least_ T
  refine T.F_law_stands.ok sc_law_stands (fun vs H Q E h => ?_) (fun cdv A outer s H0 vs Q E hr h => ?_)
  · obtain ⟨G, O, v1, one_here1, v2, two1, many1, other1, most1, least1, rfl, _⟩ := h
    rfl
  · obtain ⟨G0, O, v1, one_here1, v2, two1, many1, other1, most1, least1, rfl, S0, h1, h2, res, hm, q⟩ := h
    refine ⟨_, PSs.nox (pss_cons (ps_par (i := 6) (j := 7) (by rfl) sc_law_stands.nd rfl rfl (by decide) rfl rfl (pa_cons (pe_call G_law_all (hr.mono (by decide)) (by rfl) T.g_law_all T.F_law_all.kp T.b_law_all .nil pass0 (pa_cons (pv 2) (pa_cons (pv 5) (pa_cons (pv 4) pa_nil)))) (pa_cons (pe_call G_law_all (hr.mono (by decide)) (by rfl) T.g_law_all T.F_law_all.kp T.b_law_all .nil pass0 (pa_cons (pv 3) (pa_cons (pv 5) (pa_cons (pv 4) pa_nil)))) pa_nil)) (by rfl))
      (pss_cons (ps_if (pt_cmpR (op_neD hr.units) (pe_listGt (r := rTx) (sp := spG_words K) (k := 3) (ci := 0) (hr.mono (by decide)) rfl (fun cd L go cv ok => gok_words_up_to T ((hr.mono (by decide) : Room 6 _)).in1.in1.in1 ok) (pmk_callN T.F_words_up_to sc_words_up_to hcl_words rfl rfl (by decide) (hr.mono (by decide) : Room 3 _) rfl hr.hd (by rfl) T.g_words_up_to T.F_words_up_to.kp kb_words_up_to_least (pa_cons (pv 0) (pa_cons (pv 4) pa_nil)) (pk_cons (pv 5) pk_nil)) (by rfl) T.z_list boot_list) (pv 6) (nomark _)) (pss_one (ps_ret pe_bl)) pss_nil)
      (pss_cons (ps_set (i := 8) sc_law_stands.nd rfl (.inl rfl) (pe_lst pa_nil))
      (pss_cons (ps_cut (ps_forG (r := rTx) (sp := spG_words K) (ci := 0) hr rfl (fun cd L go cv ok => gok_words_up_to T ((hr.mono (by decide) : Room 4 _)).in1 ok) (pmk_callN T.F_words_up_to sc_words_up_to hcl_words rfl rfl (by decide) (hr.mono (by decide) : Room 3 _) rfl hr.hd (by rfl) T.g_words_up_to T.F_words_up_to.kp kb_words_up_to_least (pa_cons (pv 0) (pa_cons (pv 4) pa_nil)) (pk_cons (pv 5) pk_nil)) (pg_name (i := 9) sc_law_stands.nd rfl (.inl rfl))
      (pss_cons (ps_if (pt_cmpR op_ge (pe_callB (r := rLenM K) call_lenM (by rfl) T.z_len boot_len (pa_cons (pv 8) pa_nil)) pe_int (nomark _)) (pss_one ps_break) pss_nil)
      (pss_one (ps_expr (pe_bm PySem.F.plainAttrs_list PySem.F.slot_list_append PySem.F.type_list_append mt_append (pv 8) (pa_cons (pe_tup (pa_cons (pv 9) (pa_cons (pe_listGt (r := rTx) (sp := spG_words K) (k := 3) (ci := 0) (hr.mono (by decide)) rfl (fun cd L go cv ok => gok_words_up_to T ((hr.mono (by decide) : Room 6 _)).in1.in1.in1 ok) (pmk_call T.F_words_up_to sc_words_up_to hcl_words rfl rfl (by decide) (hr.mono (by decide) : Room 3 _) rfl hr.hd (by rfl) T.g_words_up_to T.F_words_up_to.kp bd_words_up_to vd_words_up_to (pa_cons (pv 1) (pa_cons pe_int pa_nil))) (by rfl) T.z_list boot_list) pa_nil))) pa_nil)))))))
      (pss_cons (ps_if (pt_cmpR (op_neD hr.units) (pv 8) (pe_lc (own := [("_law_word", 9)]) (g := gName 9) (by rfl) sc_law_stands.nd (pi_list (pe_slice sl_list (pv 6) po_none (po_some pe_int))) (blkOk_by (own := [("_law_word", 9)]) (N := ["_law_one_here", "_law_two", "_law_many", "_law_other", "_law_most", "_law_least", "_law_due", "_law_more", "_law_inside", "_law_word", "_law_stop"]) (sc := defScope s_law_stands) (by decide +kernel)) (fun _ _ _ _ _ => (pg_name (i := 9) sc_law_stands.nd rfl (.inl rfl))) (fun _ _ _ _ _ => pts_nil) (fun _ _ _ _ _ => (pe_tup (pa_cons (pv 9) (pa_cons (pe_call G_law_all (hr.mono (by decide)) (by rfl) T.g_law_all T.F_law_all.kp T.b_law_all .nil pass0 (pa_cons (pv 3) (pa_cons pe_int (pa_cons pe_int pa_nil)))) pa_nil))))) (nomark _)) (pss_one (ps_ret pe_bl)) pss_nil)
      (pss_cons (ps_set (i := 10) sc_law_stands.nd rfl (.inl rfl) (pe_op op_fdivW (pe_callB (r := rLenM K) call_lenM (by rfl) T.z_len boot_len (pa_cons (pv 6) pa_nil)) pe_int))
      (pss_cons (ps_if (pt_cut (PW.pt (pw_or (pt_cmpR (op_neD hr.units) (pe_call G_law_begin (hr.mono (by decide)) (by rfl) T.g_law_begin T.F_law_begin.kp T.b_law_begin .nil pass0 (pa_cons (pv 0) (pa_cons (pv 4) (pa_cons (pv 5) (pa_cons (pv 10) pa_nil))))) (pe_slice sl_list (pv 6) po_none (po_some (pv 10))) (nomark _)) (pw_or1 (pt_cmpR (op_neD hr.units) (pe_call G_law_begin (hr.mono (by decide)) (by rfl) T.g_law_begin T.F_law_begin.kp T.b_law_begin .nil pass0 (pa_cons (pv 1) (pa_cons (pv 4) (pa_cons (pv 5) (pa_cons pe_int pa_nil))))) (pe_slice sl_list (pv 7) po_none (po_some pe_int)) (nomark _)))))) (pss_one (ps_ret pe_bl)) pss_nil)
      (pss_one (ps_ret (pe_cmpR (op_eqD hr.units) (pe_listGt (r := rTx) (sp := spG_words K) (k := 3) (ci := 0) (hr.mono (by decide)) rfl (fun cd L go cv ok => gok_words_up_to T ((hr.mono (by decide) : Room 6 _)).in1.in1.in1 ok) (pmk_call T.F_words_up_to sc_words_up_to hcl_words rfl rfl (by decide) (hr.mono (by decide) : Room 3 _) rfl hr.hd (by rfl) T.g_words_up_to T.F_words_up_to.kp bd_words_up_to vd_words_up_to (pa_cons (pv 1) (pa_cons (pv 4) pa_nil))) (by rfl) T.z_list boot_list) (pe_call G_law_all (hr.mono (by decide)) (by rfl) T.g_law_all T.F_law_all.kp T.b_law_all .nil pass0 (pa_cons (pv 3) (pa_cons pe_int (pa_cons (pv 4) pa_nil)))) (nomark _))))))))))), ?_⟩
    have E0 := Ext.refl G0
    have hm0 : (Option.bind (m_law_all many1 least1 most1) fun r1 =>
  Option.bind (m_law_all other1 least1 most1) fun r2 =>
  Option.bind (m_words_up_to one_here1 most1 least1) fun r4 =>
  Option.bind (ifM ((r4.all fun z => (okW z)) && (r1.all fun z => (okW z))) (decide (r4 = r1))) fun b1 =>
  if (!b1) then (some false)
  else (Option.bind (m_words_up_to one_here1 most1 least1) fun r6 =>
  Option.bind (forL (m_law_stands_b1 two1) r6 ([] : List (Wrd × (List Wrd)))) fun res => match res with
  | Fl.rt r => some r
  | Fl.nx inside1 => Option.bind (folM (m_law_stands_c2 other1) (cutM r1 none (some (4 : Int))) ([] : (List (Wrd × (List Wrd))))) fun acc1 =>
  Option.bind (ifM ((inside1.all fun z => ((okW z.1) && (z.2.all fun z => (okW z)))) && (acc1.all fun z => ((okW z.1) && (z.2.all fun z => (okW z))))) (decide (inside1 = acc1))) fun b3 =>
  if (!b3) then (some false)
  else (Option.bind (Option.bind (m_law_begin one_here1 most1 least1 ((r1.length : Int) / (2 : Int))) fun r11 =>
  Option.bind (ifM ((r11.all fun z => (okW z)) && ((cutM r1 none (some ((r1.length : Int) / (2 : Int)))).all fun z => (okW z))) (decide (r11 = (cutM r1 none (some ((r1.length : Int) / (2 : Int))))))) fun b4 =>
  if (!b4) then some true else (Option.bind (m_law_begin two1 most1 least1 (3 : Int)) fun r12 =>
  Option.bind (ifM ((r12.all fun z => (okW z)) && ((cutM r2 none (some (3 : Int))).all fun z => (okW z))) (decide (r12 = (cutM r2 none (some (3 : Int)))))) fun b5 =>
  some (!b5))) fun x3 =>
  if x3 then (some false)
  else (Option.bind (m_words_up_to two1 most1 (1 : Int)) fun r16 =>
  Option.bind (m_law_all other1 (1 : Int) most1) fun r17 =>
  Option.bind (ifM ((r16.all fun z => (okW z)) && (r17.all fun z => (okW z))) (decide (r16 = r17))) fun b9 =>
  some b9)))) = some res := hm
    refine gS_Par ?_
    refine gCons' ?_
    refine gCall ?_
    refine gCons' ?_
    refine gV rfl ?_
    refine gCons' ?_
    refine gV rfl ?_
    refine gCons' ?_
    refine gV rfl ?_
    refine gNil' ?_
    obtain ⟨r1, hq1, hm1⟩ := bindS hm0
    refine ⟨G0, (O), many1, least1, most1, rfl, S0, r1, hq1, fun v3 G1 H1 e1 S1 h3 => ?_⟩
    have h4 := R.up e1 h1
    have h5 := R.up e1 h2
    have E1 := E0.trans e1
    refine gCons' ?_
    refine gCall ?_
    refine gCons' ?_
    refine gV rfl ?_
    refine gCons' ?_
    refine gV rfl ?_
    refine gCons' ?_
    refine gV rfl ?_
    refine gNil' ?_
    obtain ⟨r2, hq2, hm2⟩ := bindS hm1
    refine ⟨G1, (O), other1, least1, most1, rfl, S1, r2, hq2, fun v4 G2 H2 e2 S2 h6 => ?_⟩
    have h7 := R.up e2 h4
    have h8 := R.up e2 h5
    have h9 := R.up e2 h3
    have E2 := E1.trans e2
    refine gNil' ?_
    refine ⟨_, _, rfl, ?_⟩
    refine gS_IfS ?_
    refine gTest ?_
    refine gOp ?_
    refine gLG ?_
    refine gMkN ?_
    refine gCons' ?_
    refine gV rfl ?_
    refine gCons' ?_
    refine gV rfl ?_
    refine gNil' ?_
    refine gCons' ?_
    refine gV rfl ?_
    refine gNil' ?_
    refine ⟨rfl, rfl, rfl, ?_⟩
    obtain ⟨r4, hq4, hm4⟩ := bindS hm2
    refine q_LG S2 (fun W e => ⟨v1, one_here1, most1, least1, rfl, R.up e h7, hq4⟩) (wu_len hq4) (fun v6 G4 H4 e4 S4 h15 => ?_)
    have h16 := R.up e4 h7
    have h17 := R.up e4 h8
    have h18 := R.up e4 h9
    have h19 := R.up e4 h6
    have E4 := E2.trans e4
    have e5 := Ext.refl G4
    have S5 := S4
    have h20 := h15
    have h21 := R.up e5 h16
    have h22 := R.up e5 h17
    have h23 := R.up e5 h18
    have h24 := R.up e5 h19
    have E5 := E4.trans e5
    refine gV rfl ?_
    obtain ⟨b1, hq5, hm5⟩ := bindS hm4
    obtain ⟨ho1, he1⟩ := ifM_some hq5
    obtain ⟨o1, o2⟩ := (Bool.and_eq_true ..).mp ho1
    refine q_neDx (dM (dTx (K := K))) (by show 2 ≤ 64; decide) (R.up S5.ext h20) (R.up S5.ext h23) o1 o2 he1 ?_
    refine ⟨(!b1), rfl, ?_⟩
    refine ite2 (fun c1 => ?_) (fun c1 => ?_)
    · skip
      have hm6 := (if_pos c1).symm.trans hm5
      refine gRet ?_
      refine gC ?_
      cases hm6
      exact q G4 H4 E5 S5
    · skip
      have hm7 := (if_neg c1).symm.trans hm5
      refine gNext ?_
      refine gE ?_
      refine gS_AsgN ?_
      refine gLst ?_
      refine gNil' ?_
      have h25 : Al (rP2 K rTx (rM rTx)) G4 [] [] := True.intro
      refine q_lst S5 h25 (by show 0 ≤ 100000; decide) (fun a1 H6 w1 S6 h26 => ?_)
      obtain ⟨r6, hq7, hm9⟩ := bindS hm7
      obtain ⟨res1, hl1, hm10⟩ := bindS hm9
      refine gS_CS (fun (σ : L2.St) (H : Hp) => ∃ s : (List (Wrd × (List Wrd))), res1 = Fl.nx s ∧ ∃ (G : Hp) (w2 : List V) (y1 : Option V) (y2 : Option V), Ext G4 G ∧ Sub G ((a1, HO.lst w2) :: O) H ∧ σ = [some v1, some v2, some (V.int many1), some (V.int other1), some (V.int most1), some (V.int least1), some v3, some v4, some (V.ref a1), y1, y2] ∧ Al (rP2 K rTx (rM rTx)) G w2 s) ?_ ?_
      · skip
        refine gForG ?_
        refine gMkN ?_
        refine gCons' ?_
        refine gV rfl ?_
        refine gCons' ?_
        refine gV rfl ?_
        refine gNil' ?_
        refine gCons' ?_
        refine gV rfl ?_
        refine gNil' ?_
        refine ⟨rfl, rfl, rfl, ?_⟩
        have e7 := Ext.refl G4
        have S8 := S6
        have h34 := R.up e7 h21
        have h35 := R.up e7 h22
        have h36 := R.up e7 h23
        have h37 := R.up e7 h24
        have h38 := Al.up e7 h26
        have E7 := E5.trans e7
        have hp1 : ∀ (Gb : Hp) (s : (List (Wrd × (List Wrd)))) (σ : L2.St) (H : Hp), (fun (Gb : Hp) (s : (List (Wrd × (List Wrd)))) (σ : L2.St) (H : Hp) => ∃ (G : Hp) (w2 : List V) (y1 : Option V) (y2 : Option V), Ext Gb G ∧ Sub G ((a1, HO.lst w2) :: O) H ∧ σ = [some v1, some v2, some (V.int many1), some (V.int other1), some (V.int most1), some (V.int least1), some v3, some v4, some (V.ref a1), y1, y2] ∧ Al (rP2 K rTx (rM rTx)) G w2 s) Gb s σ H → ∃ W : Wo, W.H = H ∧ Ext Gb W.G ∧ Sub W.G W.O W.H ∧ (fun (s : (List (Wrd × (List Wrd)))) (σ : L2.St) (W : Wo) => ∃ (w2 : List V) (y1 : Option V) (y2 : Option V), W.O = ((a1, HO.lst w2) :: O) ∧ σ = [some v1, some v2, some (V.int many1), some (V.int other1), some (V.int most1), some (V.int least1), some v3, some v4, some (V.ref a1), y1, y2] ∧ Al (rP2 K rTx (rM rTx)) W.G w2 s) s σ W := by
          intro Gb s σ H hI
          obtain ⟨G, k0, k1, k2, ie, iS, irest⟩ := hI
          exact ⟨⟨G, _, H⟩, rfl, ie, iS, k0, k1, k2, rfl, irest⟩
        refine lp_Gt (G := G4) (fun W e => ⟨v1, one_here1, most1, least1, rfl, R.up e h34, hq7⟩) hl1 (fun (Gb : Hp) (s : (List (Wrd × (List Wrd)))) (σ : L2.St) (H : Hp) => ∃ (G : Hp) (w2 : List V) (y1 : Option V) (y2 : Option V), Ext Gb G ∧ Sub G ((a1, HO.lst w2) :: O) H ∧ σ = [some v1, some v2, some (V.int many1), some (V.int other1), some (V.int most1), some (V.int least1), some v3, some v4, some (V.ref a1), y1, y2] ∧ Al (rP2 K rTx (rM rTx)) G w2 s) (fun (s : (List (Wrd × (List Wrd)))) (σ : L2.St) (W : Wo) => ∃ (w2 : List V) (y1 : Option V) (y2 : Option V), W.O = ((a1, HO.lst w2) :: O) ∧ σ = [some v1, some v2, some (V.int many1), some (V.int other1), some (V.int most1), some (V.int least1), some v3, some v4, some (V.ref a1), y1, y2] ∧ Al (rP2 K rTx (rM rTx)) W.G w2 s) hp1 ?_ ?_ ⟨G4, w1, _, _, (Ext.refl _), S8, rfl, h38⟩ ?_ ?_
        · intro s σ W G1 H1 hJ e S
          obtain ⟨Gw, Ow, Hw⟩ := W
          obtain ⟨k0, k1, k2, rfl, hσ, r0_⟩ := hJ
          exact ⟨G1, k0, k1, k2, Ext.refl _, S, hσ, Al.up e r0_⟩
        · intro Ga Gb s σ H e hI
          obtain ⟨G, k0, k1, k2, ie, irest⟩ := hI
          exact ⟨G, k0, k1, k2, e.trans ie, irest⟩
        · intro i1 x1 inside2 b2 hb1 hr1 v10 σ1 H9 Gb1 eb1 hI1 h39
          obtain ⟨G8, w3, y3, y4, e8, S9, rfl, h40⟩ := hI1
          have h41 := R.up (eb1.trans e8) h34
          have h42 := R.up (eb1.trans e8) h35
          have h43 := R.up (eb1.trans e8) h36
          have h44 := R.up (eb1.trans e8) h37
          have E8 := E7.trans (eb1.trans e8)
          obtain rfl := (show v10 = (V.str (e_T x1)) from h39)
          have hm11 : (if (decide ((inside2.length : Int) ≥ (4 : Int))) then (some (Bf.bk inside2))   else (Option.bind (m_words_up_to two1 (2 : Int) (1 : Int)) fun r8 =>   Option.bind (appM inside2 (x1, r8)) fun inside3 =>   some (Bf.go inside3))) = some b2 := hb1
          refine gS_IfS ?_
          refine gTest ?_
          refine gOp ?_
          refine gCB ?_
          refine gCons' ?_
          refine gV rfl ?_
          refine gNil' ?_
          refine q_lenO S9 h40 ?_
          refine gC ?_
          refine ⟨_, _, rfl, rfl, ?_⟩
          refine ⟨(decide ((inside2.length : Int) ≥ (4 : Int))), rfl, ?_⟩
          refine ite2 (fun c2 => ?_) (fun c2 => ?_)
          · skip
            have hm12 := (if_pos c2).symm.trans hm11
            cases hm12
            exact ⟨_, (Option.some.inj hr1).symm, ⟨G8, w3, _, _, (e7.trans (eb1.trans e8)), S9, rfl, h40⟩⟩
          · skip
            have hm13 := (if_neg c2).symm.trans hm11
            refine gNext ?_
            refine gE ?_
            refine gDrop ?_
            refine gBM ?_
            refine gV rfl ?_
            refine ⟨.inl ⟨rfl, _, .inl (.inl S9.head)⟩, ?_⟩
            refine gCons' ?_
            refine gTup' ?_
            refine gCons' ?_
            refine gV rfl ?_
            refine gCons' ?_
            refine gLG ?_
            refine gMkD ?_
            refine gCons' ?_
            refine gV rfl ?_
            refine gCons' ?_
            refine gC ?_
            refine gNil' ?_
            obtain ⟨r8, hq9, hm15⟩ := bindS hm13
            refine ⟨rfl, ?_⟩
            refine q_LG S9 (fun W e => ⟨v2, two1, (2 : Int), (1 : Int), rfl, R.up e h42, hq9⟩) (wu_len hq9) (fun v12 G10 H11 e10 S11 h53 => ?_)
            have h54 := R.up e10 h41
            have h55 := R.up e10 h42
            have h56 := R.up e10 h43
            have h57 := R.up e10 h44
            have h58 := Al.up e10 h40
            have E10 := E8.trans e10
            have e11 := Ext.refl G10
            have S12 := S11
            have h60 := h53
            have h61 := R.up e11 h54
            have h62 := R.up e11 h55
            have h63 := R.up e11 h56
            have h64 := R.up e11 h57
            have h65 := Al.up e11 h58
            have E11 := E10.trans e11
            refine gNil' ?_
            refine q_tup2 (K := K) S12 (show R.rel rTx G10 (V.str (e_T x1)) x1 from rfl) (show R.rel (rM rTx) G10 v12 r8 from h60) (fun v14 G12 H13 e12 S13 h67 => ?_)
            have h68 := R.up e12 h61
            have h69 := R.up e12 h62
            have h70 := R.up e12 h63
            have h71 := R.up e12 h64
            have h72 := Al.up e12 h65
            have E12 := E11.trans e12
            refine gNil' ?_
            obtain ⟨inside3, hq10, hm16⟩ := bindS hm15
            refine q_app S13 h72 (show R.rel (rP2 K rTx (rM rTx)) G12 v14 (x1, r8) from h67) hq10 (fun H14 w4 S14 h74 => ?_)
            cases hm16
            exact nxG hp1 ⟨_, ⟨G12, w4, _, _, (((e8.trans e10).trans e11).trans e12), S14, rfl, h74⟩, hr1⟩
        · intro s σ H h1 h2
          obtain ⟨G, k1, k2, k3, ie, irest⟩ := h2
          exact ⟨s, h1, G, k1, k2, k3, (e7.trans ie), irest⟩
      · intro σ2 H15 hJ1
        obtain ⟨inside1, hres1, hJ2⟩ := hJ1
        subst hres1
        dsimp only at hm10
        obtain ⟨G13, w5, y5, y6, e13, S15, rfl, h75⟩ := hJ2
        have h76 := R.up e13 h21
        have h77 := R.up e13 h22
        have h78 := R.up e13 h23
        have h79 := R.up e13 h24
        have E13 := E5.trans e13
        refine gS_IfS ?_
        refine gTest ?_
        refine gOp ?_
        refine gV rfl ?_
        refine gLc ?_
        refine gIL ?_
        refine gSl ?_
        refine gV rfl ?_
        refine gNoPart ?_
        refine gPart ?_
        refine gC ?_
        refine ⟨_, rfl, ?_⟩
        refine q_slM S15 (rM_L (K := K) h78) (fun v16 G15 H17 e15 S17 h86 => ?_)
        have h87 := R.up e15 h76
        have h88 := R.up e15 h77
        have h89 := R.up e15 h78
        have h90 := R.up e15 h79
        have h91 := Al.up e15 h75
        have E15 := E13.trans e15
        obtain ⟨acc1, hq12, hm18⟩ := bindS hm10
        refine lc_L (r := rTx) S17 (rM_L (K := K) h86) hq12 (fun (D : Addr) (s : (List (Wrd × (List Wrd)))) (H : Hp) => ∃ (G : Hp) (w6 : List V), Ext G15 G ∧ Sub G ((D, HO.lst w6) :: (a1, HO.lst w5) :: O) H ∧ Al (rP2 K rTx (rM rTx)) G w6 s) ?_ ?_ ?_ ?_
        · intro D1 nD1
          exact ⟨G15, [], Ext.refl _, S17.newOwn nD1, True.intro⟩
        · intro D s H hI
          obtain ⟨G, k4, ie, iS, _⟩ := hI
          exact ie.trans iS.ext
        · intro D2 i2 x2 acc2 s3 hb2 hr2 v19 H20 hI2 h106
          obtain ⟨G18, w7, e18, S20, h107⟩ := hI2
          have h108 := R.up e18 h87
          have h109 := R.up e18 h88
          have h110 := R.up e18 h89
          have h111 := R.up e18 h90
          have h112 := Al.up e18 h91
          have h113 := R.up e18 (rM_L (K := K) h86)
          have E18 := E15.trans e18
          obtain rfl := (show v19 = (V.str (e_T x2)) from h106)
          refine ⟨rfl, ?_⟩
          have hm19 : (Option.bind (m_law_all other1 (1 : Int) (2 : Int)) fun r10 =>   Option.bind (appM acc2 (x2, r10)) fun acc3 =>   some acc3) = some s3 := hb2
          refine gYes ?_
          refine iteT ?_
          refine gTup' ?_
          refine gCons' ?_
          refine gV rfl ?_
          refine gCons' ?_
          refine gCall ?_
          refine gCons' ?_
          refine gV rfl ?_
          refine gCons' ?_
          refine gC ?_
          refine gCons' ?_
          refine gC ?_
          refine gNil' ?_
          obtain ⟨r10, hq13, hm20⟩ := bindS hm19
          refine ⟨G18, ((D2, HO.lst w7) :: (a1, HO.lst w5) :: O), other1, (1 : Int), (2 : Int), rfl, S20, r10, hq13, fun v20 G19 H21 e19 S21 h114 => ?_⟩
          have h115 := R.up e19 h108
          have h116 := R.up e19 h109
          have h117 := R.up e19 h110
          have h118 := R.up e19 h111
          have h119 := Al.up e19 h112
          have h120 := R.up e19 h113
          have h121 := Al.up e19 h107
          have E19 := E18.trans e19
          refine gNil' ?_
          refine q_tup2 (K := K) S21 (show R.rel rTx G19 (V.str (e_T x2)) x2 from rfl) (show R.rel (rM rTx) G19 v20 r10 from h114) (fun v21 G20 H22 e20 S22 h122 => ?_)
          have h123 := R.up e20 h115
          have h124 := R.up e20 h116
          have h125 := R.up e20 h117
          have h126 := R.up e20 h118
          have h127 := Al.up e20 h119
          have h128 := R.up e20 h120
          have h129 := Al.up e20 h121
          have E20 := E19.trans e20
          obtain ⟨acc3, hq14, hm21⟩ := bindS hm20
          refine q_lcEl S22 h129 (show R.rel (rP2 K rTx (rM rTx)) G20 v21 (x2, r10) from h122) hq14 (fun H23 w8 S23 h130 => ?_)
          cases hm21
          exact ⟨_, ⟨G20, w8, ((e18.trans e19).trans e20), S23, h130⟩, hr2⟩
        · intro D3 H24 hI3
          obtain ⟨G21, w9, e21, S24, h131⟩ := hI3
          have h132 := R.up e21 h87
          have h133 := R.up e21 h88
          have h134 := R.up e21 h89
          have h135 := R.up e21 h90
          have h136 := Al.up e21 h91
          have E21 := E15.trans e21
          obtain ⟨b3, hq15, hm22⟩ := bindS hm18
          have S25 : Sub G21 ((a1, HO.lst w5) :: (D3, HO.lst w9) :: O) H24 := S24.front 1 rfl rfl
          have h137 := rM_own S25 h136
          have S26 : Sub G21 ((D3, HO.lst w9) :: (a1, HO.lst w5) :: O) H24 := S25.front 1 rfl rfl
          have h138 := rM_own S26 h131
          obtain ⟨ho2, he2⟩ := ifM_some hq15
          obtain ⟨o3, o4⟩ := (Bool.and_eq_true ..).mp ho2
          refine q_neDx (dM (dP2 (dTx (K := K)) (dM (dTx (K := K))))) (by show 5 ≤ 64; decide) h137 h138 o3 o4 he2 ?_
          refine ⟨(!b3), rfl, ?_⟩
          refine ite2 (fun c3 => ?_) (fun c3 => ?_)
          · skip
            have hm23 := (if_pos c3).symm.trans hm22
            refine gRet ?_
            refine gC ?_
            have S27 := S26.tail
            have S28 := S27.tail
            cases hm23
            exact q G21 H24 E21 S28
          · skip
            have hm24 := (if_neg c3).symm.trans hm22
            refine gNext ?_
            refine gE ?_
            refine gS_AsgN ?_
            refine gOp ?_
            refine gCB ?_
            refine gCons' ?_
            refine gV rfl ?_
            refine gNil' ?_
            refine q_lenL (y := V.non) S26 (rM_L (K := K) h134) ?_
            refine gC ?_
            refine ⟨_, _, rfl, rfl, ⟨by decide, by decide⟩, ?_⟩
            refine gS_IfS ?_
            obtain ⟨x3, hq20, hm29⟩ := bindS hm24
            refine gCT (fun (b : Bool) (H : Hp) => ∃ (G : Hp), Ext G21 G ∧ Sub G ((D3, HO.lst w9) :: (a1, HO.lst w5) :: O) H ∧ b = x3) ?_ ?_
            · skip
              refine gOr ?_
              refine gTest ?_
              refine gOp ?_
              refine gCall ?_
              refine gCons' ?_
              refine gV rfl ?_
              refine gCons' ?_
              refine gV rfl ?_
              refine gCons' ?_
              refine gV rfl ?_
              refine gCons' ?_
              refine gV rfl ?_
              refine gNil' ?_
              obtain ⟨r13, hq21, hm30⟩ := bindS hq20
              refine ⟨G21, ((D3, HO.lst w9) :: (a1, HO.lst w5) :: O), v1, one_here1, most1, least1, ((r1.length : Int) / (2 : Int)), rfl, S26, h132, r13, hq21, fun v26 G26 H29 e26 S33 h165 => ?_⟩
              have h166 := R.up e26 h132
              have h167 := R.up e26 h133
              have h168 := R.up e26 h134
              have h169 := R.up e26 h135
              have h170 := Al.up e26 h136
              have E26 := E21.trans e26
              refine gSl ?_
              refine gV rfl ?_
              refine gNoPart ?_
              refine gPart ?_
              refine gV rfl ?_
              refine ⟨_, rfl, ?_⟩
              refine q_slM S33 (rM_L (K := K) h168) (fun v27 G27 H30 e27 S34 h171 => ?_)
              have h172 := R.up e27 h166
              have h173 := R.up e27 h167
              have h174 := R.up e27 h168
              have h175 := R.up e27 h169
              have h176 := Al.up e27 h170
              have h177 := R.up e27 h165
              have E27 := E26.trans e27
              obtain ⟨b6, hq22, hm31⟩ := bindS hm30
              obtain ⟨ho5, he5⟩ := ifM_some hq22
              obtain ⟨o9, o10⟩ := (Bool.and_eq_true ..).mp ho5
              refine q_neDx (dM (dTx (K := K))) (by show 2 ≤ 64; decide) (R.up S34.ext h177) (R.up S34.ext h171) o9 o10 he5 ?_
              refine ⟨(!b6), rfl, ?_⟩
              refine ite2 (fun c4 => ?_) (fun c4 => ?_)
              · skip
                have hm32 := (if_pos c4).symm.trans hm31
                cases hm32
                exact ⟨G27, (e26.trans e27), S34, rfl⟩
              · skip
                have hm33 := (if_neg c4).symm.trans hm31
                refine gTest ?_
                refine gOp ?_
                refine gCall ?_
                refine gCons' ?_
                refine gV rfl ?_
                refine gCons' ?_
                refine gV rfl ?_
                refine gCons' ?_
                refine gV rfl ?_
                refine gCons' ?_
                refine gC ?_
                refine gNil' ?_
                obtain ⟨r14, hq23, hm34⟩ := bindS hm33
                refine ⟨G27, ((D3, HO.lst w9) :: (a1, HO.lst w5) :: O), v2, two1, most1, least1, (3 : Int), rfl, S34, h173, r14, hq23, fun v28 G28 H31 e28 S35 h178 => ?_⟩
                have h179 := R.up e28 h172
                have h180 := R.up e28 h173
                have h181 := R.up e28 h174
                have h182 := R.up e28 h175
                have h183 := Al.up e28 h176
                have E28 := E27.trans e28
                refine gSl ?_
                refine gV rfl ?_
                refine gNoPart ?_
                refine gPart ?_
                refine gC ?_
                refine ⟨_, rfl, ?_⟩
                refine q_slM S35 (rM_L (K := K) h182) (fun v29 G29 H32 e29 S36 h184 => ?_)
                have h185 := R.up e29 h179
                have h186 := R.up e29 h180
                have h187 := R.up e29 h181
                have h188 := R.up e29 h182
                have h189 := Al.up e29 h183
                have h190 := R.up e29 h178
                have E29 := E28.trans e29
                obtain ⟨b7, hq24, hm35⟩ := bindS hm34
                obtain ⟨ho6, he6⟩ := ifM_some hq24
                obtain ⟨o11, o12⟩ := (Bool.and_eq_true ..).mp ho6
                refine q_neDx (dM (dTx (K := K))) (by show 2 ≤ 64; decide) (R.up S36.ext h190) (R.up S36.ext h184) o11 o12 he6 ?_
                refine ⟨(!b7), rfl, ?_⟩
                cases hm35
                exact ⟨G29, (((e26.trans e27).trans e28).trans e29), S36, rfl⟩
            · intro b8 H33 hJ
              obtain ⟨G30, e30, S37, rfl⟩ := hJ
              have h191 := R.up e30 h132
              have h192 := R.up e30 h133
              have h193 := R.up e30 h134
              have h194 := R.up e30 h135
              have h195 := Al.up e30 h136
              have E30 := E21.trans e30
              refine ite2 (fun c5 => ?_) (fun c5 => ?_)
              · skip
                have hm36 := (if_pos c5).symm.trans hm29
                refine gRet ?_
                refine gC ?_
                have S38 := S37.tail
                have S39 := S38.tail
                cases hm36
                exact q G30 H33 E30 S39
              · skip
                have hm37 := (if_neg c5).symm.trans hm29
                refine gNext ?_
                refine gE ?_
                refine gRet ?_
                refine gOp ?_
                refine gLG ?_
                refine gMkD ?_
                refine gCons' ?_
                refine gV rfl ?_
                refine gCons' ?_
                refine gV rfl ?_
                refine gNil' ?_
                obtain ⟨r16, hq26, hm39⟩ := bindS hm37
                refine ⟨rfl, ?_⟩
                refine q_LG S37 (fun W e => ⟨v2, two1, most1, (1 : Int), rfl, R.up e h192, hq26⟩) (wu_len hq26) (fun v31 G32 H35 e32 S41 h202 => ?_)
                have h203 := R.up e32 h191
                have h204 := R.up e32 h192
                have h205 := R.up e32 h193
                have h206 := R.up e32 h194
                have h207 := Al.up e32 h195
                have E32 := E30.trans e32
                have e33 := Ext.refl G32
                have S42 := S41
                have h208 := h202
                have h209 := R.up e33 h203
                have h210 := R.up e33 h204
                have h211 := R.up e33 h205
                have h212 := R.up e33 h206
                have h213 := Al.up e33 h207
                have E33 := E32.trans e33
                refine gCall ?_
                refine gCons' ?_
                refine gV rfl ?_
                refine gCons' ?_
                refine gC ?_
                refine gCons' ?_
                refine gV rfl ?_
                refine gNil' ?_
                obtain ⟨r17, hq27, hm40⟩ := bindS hm39
                refine ⟨G32, ((D3, HO.lst w9) :: (a1, HO.lst w5) :: O), other1, (1 : Int), most1, rfl, S42, r17, hq27, fun v33 G34 H37 e34 S43 h214 => ?_⟩
                have h215 := R.up e34 h209
                have h216 := R.up e34 h210
                have h217 := R.up e34 h211
                have h218 := R.up e34 h212
                have h219 := Al.up e34 h213
                have h220 := R.up e34 h208
                have E34 := E33.trans e34
                obtain ⟨b9, hq28, hm41⟩ := bindS hm40
                obtain ⟨ho7, he7⟩ := ifM_some hq28
                obtain ⟨o13, o14⟩ := (Bool.and_eq_true ..).mp ho7
                refine q_eqDx (dM (dTx (K := K))) (by show 2 ≤ 64; decide) (R.up S43.ext h220) (R.up S43.ext h214) o13 o14 he7 ?_
                have S44 := S43.tail
                have S45 := S44.tail
                cases hm41
                exact q G34 H37 E34 S45
end
end Mr

set_option Elab.async false
set_option linter.all false
set_option maxRecDepth 100000
set_option maxHeartbeats 4000000
set_option synthInstance.maxSize 4000
set_option synthInstance.maxHeartbeats 400000
namespace Mr
open PySem PySem.Spec PyProof.Rows L2 GFr
section
variable {P : Program} {w : World} {K : PySem.W.Frag} {mg : Str → Option Value} {base : Heap}
theorem sc_law : FnScope ["_law_script", "_law_at", "_law_bag_here", "_law_many", "_law_other", "_law_one_here", "_law_two", "_law_most"] ["_law_script"] (defScope s_law) := ⟨rfl, rfl, rfl, by decide +kernel, rfl, by decide +kernel, by decide +kernel⟩
theorem ok_law (T : Tx K mg) : FnOk P w K mg base CX0 9 (He.fAd K ("law", none)) T.fd_law ["_law_script"] (sp_law K w) := by
  have G_Face___init__ := ok_Face___init__ (P := P) (w := w) (base := base) T
  have G_law_bag := ok_law_bag (P := P) (w := w) (base := base) T
  have G_law_draw := ok_law_draw (P := P) (w := w) (base := base) T
  have G_law_one := ok_law_one (P := P) (w := w) (base := base) T
  have G_law_outlines := ok_law_outlines (P := P) (w := w) (base := base) T
  have G_law_stands := ok_law_stands (P := P) (w := w) (base := base) T
  obtain ⟨ds_Face___init___1, vd_Face___init___1, bd_Face___init___1⟩ := bdf_Face___init___1 T
  obtain ⟨ds_Face___init___0, vd_Face___init___0, bd_Face___init___0⟩ := bdf_Face___init___0 T
  refine T.F_law.ok sc_law (fun vs H Q E h => ?_) (fun cdv A outer s H0 vs Q E hr h => ?_)
  · obtain ⟨G, O, v1, script1, rfl, _⟩ := h
    rfl
  · obtain ⟨G0, O, v1, script1, rfl, S0, h1, res, hm, q⟩ := h
    refine ⟨_, PSs.nox (pss_cons (ps_cut (ps_for PassesOwn.never rfl (pi_range1 (by rfl) T.z_range (pa_cons (pe_callB (call_max2 rfl) (by rfl) T.z_max boot_max (pa_cons pe_int (pa_cons (pe_callB (call_min2 rfl) (by rfl) T.z_min boot_min (pa_cons pe_int (pa_cons (pe_callB (r := rLenM K) call_lenM (by rfl) T.z_len boot_len (pa_cons (pv 0) pa_nil)) pa_nil))) pa_nil))) pa_nil)) (pg_name (i := 1) sc_law.nd rfl (.inl rfl))
      (pss_cons (ps_set (i := 2) sc_law.nd rfl (.inl rfl) (pe_call G_law_bag (hr.mono (by decide)) (by rfl) T.g_law_bag T.F_law_bag.kp T.b_law_bag .nil pass0 (pa_cons (pv 0) (pa_cons (pv 1) pa_nil))))
      (pss_cons (ps_par (i := 3) (j := 4) (by rfl) sc_law.nd rfl rfl (by decide) rfl rfl (pa_cons (pe_op op_add pe_int (pe_call G_law_draw (hr.mono (by decide)) (by rfl) T.g_law_draw T.F_law_draw.kp T.b_law_draw .nil pass0 (pa_cons (pv 2) (pa_cons pe_int pa_nil)))) (pa_cons (pe_op op_add pe_int (pe_call G_law_draw (hr.mono (by decide)) (by rfl) T.g_law_draw T.F_law_draw.kp T.b_law_draw .nil pass0 (pa_cons (pv 2) (pa_cons pe_int pa_nil)))) pa_nil)) (by rfl))
      (pss_cons (ps_par (i := 5) (j := 6) (by rfl) sc_law.nd rfl rfl (by decide) rfl rfl (pa_cons (pe_make T.mk_Face G_Face___init__ (hr.mono (by decide)) (by rfl) T.gc_Face bd_Face___init___1 vd_Face___init___1 pass0 (pa_cons (pe_call G_law_outlines (hr.mono (by decide)) (by rfl) T.g_law_outlines T.F_law_outlines.kp T.b_law_outlines .nil pass0 (pa_cons (pv 2) (pa_cons (pv 3) (pa_cons pe_int pa_nil)))) pa_nil)) (pa_cons (pe_make T.mk_Face G_Face___init__ (hr.mono (by decide)) (by rfl) T.gc_Face bd_Face___init___0 vd_Face___init___0 pass0 (pa_cons (pe_call G_law_outlines (hr.mono (by decide)) (by rfl) T.g_law_outlines T.F_law_outlines.kp T.b_law_outlines .nil pass0 (pa_cons (pv 2) (pa_cons (pv 4) (pa_cons pe_int pa_nil)))) (pa_cons pe_int pa_nil))) pa_nil)) (by rfl))
      (pss_cons (ps_set (i := 7) sc_law.nd rfl (.inl rfl) (pe_cut (pe_ifExp (pt_cmpR op_gt (pe_callB (call_max2 rfl) (by rfl) T.z_max boot_max (pa_cons (pv 3) (pa_cons (pv 4) pa_nil))) pe_int (nomark _)) (pe_call G_law_one (hr.mono (by decide)) (by rfl) T.g_law_one T.F_law_one.kp T.b_law_one .nil pass0 (pa_cons (pv 2) (pa_cons (pe_lst (pa_cons pe_int (pa_cons pe_int (pa_cons pe_int (pa_cons pe_int (pa_cons pe_int (pa_cons pe_int pa_nil))))))) pa_nil))) (pe_call G_law_draw (hr.mono (by decide)) (by rfl) T.g_law_draw T.F_law_draw.kp T.b_law_draw .nil pass0 (pa_cons (pv 2) (pa_cons pe_int pa_nil))))))
      (pss_cons (ps_if (pt_not (pt_val (pe_call G_law_stands (hr.mono (by decide)) (by rfl) T.g_law_stands T.F_law_stands.kp T.b_law_stands .nil pass0 (pa_cons (pv 5) (pa_cons (pv 6) (pa_cons (pv 3) (pa_cons (pv 4) (pa_cons (pv 7) (pa_cons (pe_op op_add pe_int (pe_call G_law_draw (hr.mono (by decide)) (by rfl) T.g_law_draw T.F_law_draw.kp T.b_law_draw .nil pass0 (pa_cons (pv 2) (pa_cons pe_int pa_nil)))) pa_nil))))))))) (pss_one (ps_ret pe_bl)) pss_nil)
      (pss_one (ps_if (pt_not (pt_val (pe_call G_law_stands (hr.mono (by decide)) (by rfl) T.g_law_stands T.F_law_stands.kp T.b_law_stands .nil pass0 (pa_cons (pv 6) (pa_cons (pv 5) (pa_cons (pv 4) (pa_cons (pv 3) (pa_cons (pv 7) (pa_cons (pe_op op_add pe_int (pe_call G_law_draw (hr.mono (by decide)) (by rfl) T.g_law_draw T.F_law_draw.kp T.b_law_draw .nil pass0 (pa_cons (pv 2) (pa_cons (pe_op op_add (pv 7) pe_int) pa_nil)))) pa_nil))))))))) (pss_one (ps_ret pe_bl)) pss_nil)))))))))
      (pss_one (ps_ret pe_bl))), ?_⟩
    have E0 := Ext.refl G0
    have hm0 : (Option.bind (rngM (if (if (script1.length : Int) < (2 : Int) then (script1.length : Int) else (2 : Int)) > (1 : Int) then (if (script1.length : Int) < (2 : Int) then (script1.length : Int) else (2 : Int)) else (1 : Int))) fun xs1 =>
  Option.bind (forL (m_law_b1 script1) xs1 ()) fun res => match res with
  | Fl.rt r => some r
  | Fl.nx _ => some true) = some res := hm
    obtain ⟨xs1, hq1, hm1⟩ := bindS hm0
    obtain ⟨res1, hl1, hm2⟩ := bindS hm1
    refine gS_CS (fun (σ : L2.St) (H : Hp) => ∃ s : Unit, res1 = Fl.nx s ∧ ∃ (G : Hp) (y1 : Option V) (y2 : Option V) (y3 : Option V) (y4 : Option V) (y5 : Option V) (y6 : Option V) (y7 : Option V), Ext G0 G ∧ Sub G (O) H ∧ σ = [some v1, y1, y2, y3, y4, y5, y6, y7]) ?_ ?_
    · skip
      refine gFor ?_
      refine gIR ?_
      refine gCons' ?_
      refine gCB ?_
      refine gCons' ?_
      refine gC ?_
      refine gCons' ?_
      refine gCB ?_
      refine gCons' ?_
      refine gC ?_
      refine gCons' ?_
      refine gCB ?_
      refine gCons' ?_
      refine gV rfl ?_
      refine gNil' ?_
      refine q_lenL (y := V.non) S0 h1 ?_
      refine gNil' ?_
      refine ⟨_, _, rfl, ?_⟩
      refine gNil' ?_
      refine ⟨_, _, rfl, ?_⟩
      refine gNil' ?_
      refine lp_R hq1 hl1 (fun (s : Unit) (σ : L2.St) (H : Hp) => ∃ (G : Hp) (y1 : Option V) (y2 : Option V) (y3 : Option V) (y4 : Option V) (y5 : Option V) (y6 : Option V) (y7 : Option V), Ext G0 G ∧ Sub G (O) H ∧ σ = [some v1, y1, y2, y3, y4, y5, y6, y7]) ⟨G0, _, _, _, _, _, _, _, (Ext.refl _), S0, rfl⟩ ?_ ?_
      · intro i1 x1 s1 b1 hb1 hr1 σ1 H1 hI1
        obtain ⟨G1, y8, y9, y10, y11, y12, y13, y14, e1, S1, rfl⟩ := hI1
        have h3 := R.up e1 h1
        have E1 := E0.trans e1
        have hm3 : (Option.bind (m_law_bag script1 x1) fun r1 =>   Option.bind (m_law_draw r1 (4 : Int)) fun (r2, r3) =>   Option.bind (m_law_draw r3 (4 : Int)) fun (r4, r5) =>   Option.bind (m_law_outlines r5 ((1 : Int) + r2) (4 : Int)) fun (r6, r7) =>   Option.bind (m_Face___init__ r6 (1 : Int)) fun r8 =>   Option.bind (m_law_outlines r7 ((1 : Int) + r4) (4 : Int)) fun (r9, r10) =>   Option.bind (m_Face___init__ r9 (0 : Int)) fun r11 =>   Option.bind (if (decide ((if ((1 : Int) + r4) > ((1 : Int) + r2) then ((1 : Int) + r4) else ((1 : Int) + r2)) > (2 : Int))) then (Option.bind (m_law_one r10 ([(1 : Int), (2 : Int), (3 : Int), (3 : Int), (4 : Int), (0 : Int)] : List Int)) fun (r12, r13) =>   some (r12, r13)) else (Option.bind (m_law_draw r10 (7 : Int)) fun (r14, r15) =>   some (r14, r15))) fun (x2, bag_here1) =>   Option.bind (m_law_draw bag_here1 (7 : Int)) fun (r22, bag_here3) =>   Option.bind (m_law_stands r8 r11 ((1 : Int) + r2) ((1 : Int) + r4) x2 ((1 : Int) + r22)) fun r23 =>   if (!r23) then (some (Bf.rt false))   else (Option.bind (m_law_draw bag_here3 (x2 + (1 : Int))) fun (r26, bag_here5) =>   Option.bind (m_law_stands r11 r8 ((1 : Int) + r4) ((1 : Int) + r2) x2 ((1 : Int) + r26)) fun r27 =>   if (!r27) then (some (Bf.rt false))   else (some (Bf.go ())))) = some b1 := hb1
        refine gS_AsgN ?_
        refine gCall ?_
        refine gCons' ?_
        refine gV rfl ?_
        refine gCons' ?_
        refine gV rfl ?_
        refine gNil' ?_
        obtain ⟨r1, hq2, hm4⟩ := bindS hm3
        refine ⟨G1, (O), v1, script1, x1, rfl, S1, h3, r1, hq2, fun a1 w1 G2 H2 e2 S2 h4 => ?_⟩
        have h5 := R.up e2 h3
        have E2 := E1.trans e2
        refine gS_Par ?_
        refine gCons' ?_
        refine gOp ?_
        refine gC ?_
        refine gCall ?_
        refine gCons' ?_
        refine gV rfl ?_
        refine gCons' ?_
        refine gC ?_
        refine gNil' ?_
        obtain ⟨⟨r2, r3⟩, hq3, hm5⟩ := bindS hm4
        dsimp only at hm5
        refine ⟨G2, (O), a1, w1, r1, (4 : Int), rfl, S2, h4, (r2, r3), hq3, fun G3 H3 w2 e3 S3 h6 => ?_⟩
        have h7 := R.up e3 h5
        have E3 := E2.trans e3
        refine ⟨_, _, rfl, rfl, ?_⟩
        refine gCons' ?_
        refine gOp ?_
        refine gC ?_
        refine gCall ?_
        refine gCons' ?_
        refine gV rfl ?_
        refine gCons' ?_
        refine gC ?_
        refine gNil' ?_
        obtain ⟨⟨r4, r5⟩, hq4, hm6⟩ := bindS hm5
        dsimp only at hm6
        refine ⟨G3, (O), a1, w2, r3, (4 : Int), rfl, S3, h6, (r4, r5), hq4, fun G4 H4 w3 e4 S4 h8 => ?_⟩
        have h9 := R.up e4 h7
        have E4 := E3.trans e4
        refine ⟨_, _, rfl, rfl, ?_⟩
        refine gNil' ?_
        refine ⟨_, _, rfl, ?_⟩
        refine gS_Par ?_
        refine gCons' ?_
        refine gMake ?_
        refine gCons' ?_
        refine gCall ?_
        refine gCons' ?_
        refine gV rfl ?_
        refine gCons' ?_
        refine gV rfl ?_
        refine gCons' ?_
        refine gC ?_
        refine gNil' ?_
        obtain ⟨⟨r6, r7⟩, hq5, hm7⟩ := bindS hm6
        dsimp only at hm7
        refine ⟨G4, (O), a1, w3, r5, ((1 : Int) + r2), (4 : Int), rfl, S4, h8, (r6, r7), hq5, fun v3 G5 H5 w4 e5 S5 h10 h11 => ?_⟩
        have h12 := R.up e5 h9
        have E5 := E4.trans e5
        refine gNil' ?_
        refine mk_step S5 (fun p1 d1 H6 S6 => ?_)
        obtain ⟨r8, hq6, hm8⟩ := bindS hm7
        refine ⟨G5, ((a1, HO.lst w4) :: O), p1, d1, v3, r6, (1 : Int), rfl, S6, h10, r8, hq6, fun G6 H7 e6 S7 h13 => ⟨rfl, ?_⟩⟩
        have h14 := R.up e6 h12
        have h15 := Al.up e6 h11
        have E6 := E5.trans e6
        refine gCons' ?_
        refine gMake ?_
        refine gCons' ?_
        refine gCall ?_
        refine gCons' ?_
        refine gV rfl ?_
        refine gCons' ?_
        refine gV rfl ?_
        refine gCons' ?_
        refine gC ?_
        refine gNil' ?_
        obtain ⟨⟨r9, r10⟩, hq7, hm9⟩ := bindS hm8
        dsimp only at hm9
        refine ⟨G6, (O), a1, w4, r7, ((1 : Int) + r4), (4 : Int), rfl, S7, h15, (r9, r10), hq7, fun v4 G7 H8 w5 e7 S8 h16 h17 => ?_⟩
        have h18 := R.up e7 h14
        have h19 := R.up e7 h13
        have E7 := E6.trans e7
        refine gCons' ?_
        refine gC ?_
        refine gNil' ?_
        refine mk_step S8 (fun p2 d2 H9 S9 => ?_)
        obtain ⟨r11, hq8, hm10⟩ := bindS hm9
        refine ⟨G7, ((a1, HO.lst w5) :: O), p2, d2, v4, r9, (0 : Int), rfl, S9, h16, r11, hq8, fun G8 H10 e8 S10 h20 => ⟨rfl, ?_⟩⟩
        have h21 := R.up e8 h18
        have h22 := Al.up e8 h17
        have h23 := R.up e8 h19
        have E8 := E7.trans e8
        refine gNil' ?_
        refine ⟨_, _, rfl, ?_⟩
        refine gS_AsgN ?_
        obtain ⟨⟨x2, bag_here1⟩, hq11, hm13⟩ := bindS hm10
        dsimp only at hm13
        refine gCE (fun (v : V) (H : Hp) => ∃ (G : Hp) (w9 : List V), Ext G8 G ∧ Sub G ((a1, HO.lst w9) :: O) H ∧ v = (V.int x2) ∧ Al rInt G w9 bag_here1) ?_ ?_
        · skip
          refine gIf ?_
          refine gTest ?_
          refine gOp ?_
          refine gCB ?_
          refine gCons' ?_
          refine gV rfl ?_
          refine gCons' ?_
          refine gV rfl ?_
          refine gNil' ?_
          refine ⟨_, _, rfl, ?_⟩
          refine gC ?_
          refine ⟨_, _, rfl, rfl, ?_⟩
          refine ⟨(decide ((if ((1 : Int) + r4) > ((1 : Int) + r2) then ((1 : Int) + r4) else ((1 : Int) + r2)) > (2 : Int))), rfl, ?_⟩
          refine ite2 (fun c1 => ?_) (fun c1 => ?_)
          · skip
            have hm14 := (if_pos c1).symm.trans hq11
            refine gCall ?_
            refine gCons' ?_
            refine gV rfl ?_
            refine gCons' ?_
            refine gLst ?_
            refine gCons' ?_
            refine gC ?_
            refine gCons' ?_
            refine gC ?_
            refine gCons' ?_
            refine gC ?_
            refine gCons' ?_
            refine gC ?_
            refine gCons' ?_
            refine gC ?_
            refine gCons' ?_
            refine gC ?_
            refine gNil' ?_
            have h39 : Al rInt G8 [(V.int (1 : Int)), (V.int (2 : Int)), (V.int (3 : Int)), (V.int (3 : Int)), (V.int (4 : Int)), (V.int (0 : Int))] [(1 : Int), (2 : Int), (3 : Int), (3 : Int), (4 : Int), (0 : Int)] := ⟨rfl, rfl, rfl, rfl, rfl, rfl, True.intro⟩
            refine q_lst S10 h39 (by show 6 ≤ 100000; decide) (fun a3 H14 w10 S15 h40 => ?_)
            refine gNil' ?_
            obtain ⟨G12, e12, S16, h41⟩ := frz_M S15 h40
            have h42 := R.up e12 h21
            have h43 := Al.up e12 h22
            have h44 := R.up e12 h23
            have h45 := R.up e12 h20
            have E12 := E8.trans e12
            obtain ⟨⟨r16, r17⟩, hq12, hm15⟩ := bindS hm14
            dsimp only at hm15
            refine ⟨G12, (O), a1, w5, r10, (V.ref a3), ([(1 : Int), (2 : Int), (3 : Int), (3 : Int), (4 : Int), (0 : Int)] : List Int), rfl, S16, h43, h41, (r16, r17), hq12, fun G13 H15 w11 e13 S17 h46 => ?_⟩
            have h47 := R.up e13 h42
            have h48 := R.up e13 h44
            have h49 := R.up e13 h45
            have E13 := E12.trans e13
            cases hm15
            exact ⟨G13, w11, (e12.trans e13), S17, rfl, h46⟩
          · skip
            have hm16 := (if_neg c1).symm.trans hq11
            refine gCall ?_
            refine gCons' ?_
            refine gV rfl ?_
            refine gCons' ?_
            refine gC ?_
            refine gNil' ?_
            obtain ⟨⟨r18, r19⟩, hq13, hm17⟩ := bindS hm16
            dsimp only at hm17
            refine ⟨G8, (O), a1, w5, r10, (7 : Int), rfl, S10, h22, (r18, r19), hq13, fun G14 H16 w12 e14 S18 h50 => ?_⟩
            have h51 := R.up e14 h21
            have h52 := R.up e14 h23
            have h53 := R.up e14 h20
            have E14 := E8.trans e14
            cases hm17
            exact ⟨G14, w12, e14, S18, rfl, h50⟩
        · intro v5 H17 hJ
          obtain ⟨G15, w13, e15, S19, rfl, h55⟩ := hJ
          have h56 := R.up e15 h21
          have h57 := R.up e15 h23
          have h58 := R.up e15 h20
          have E15 := E8.trans e15
          refine gS_IfS ?_
          refine gNot ?_
          refine gB ?_
          refine gCall ?_
          refine gCons' ?_
          refine gV rfl ?_
          refine gCons' ?_
          refine gV rfl ?_
          refine gCons' ?_
          refine gV rfl ?_
          refine gCons' ?_
          refine gV rfl ?_
          refine gCons' ?_
          refine gV rfl ?_
          refine gCons' ?_
          refine gOp ?_
          refine gC ?_
          refine gCall ?_
          refine gCons' ?_
          refine gV rfl ?_
          refine gCons' ?_
          refine gC ?_
          refine gNil' ?_
          obtain ⟨⟨r22, bag_here3⟩, hq16, hm20⟩ := bindS hm13
          dsimp only at hm20
          refine ⟨G15, (O), a1, w13, bag_here1, (7 : Int), rfl, S19, h55, (r22, bag_here3), hq16, fun G18 H20 w15 e18 S22 h67 => ?_⟩
          have h68 := R.up e18 h56
          have h69 := R.up e18 h57
          have h70 := R.up e18 h58
          have E18 := E15.trans e18
          refine ⟨_, _, rfl, rfl, ?_⟩
          refine gNil' ?_
          obtain ⟨r23, hq17, hm21⟩ := bindS hm20
          refine ⟨G18, ((a1, HO.lst w15) :: O), (V.ref p1), r8, (V.ref p2), r11, ((1 : Int) + r2), ((1 : Int) + r4), x2, ((1 : Int) + r22), rfl, S22, h69, h70, r23, hq17, fun G19 H21 e19 S23 => ?_⟩
          have h71 := R.up e19 h68
          have h72 := Al.up e19 h67
          have h73 := R.up e19 h69
          have h74 := R.up e19 h70
          have E19 := E18.trans e19
          refine ⟨r23, rfl, ?_⟩
          refine ite2 (fun c2 => ?_) (fun c2 => ?_)
          · skip
            have hm22 := (if_pos c2).symm.trans hm21
            refine gRet ?_
            refine gC ?_
            have S24 := S23.tail
            cases hm22
            have hr2 := Option.some.inj (show some (Fl.rt _) = some res1 from hr1)
            subst hr2
            dsimp only at hm2
            cases hm2
            exact q G19 H21 E19 S24
          · skip
            have hm23 := (if_neg c2).symm.trans hm21
            refine gNext ?_
            refine gE ?_
            refine gIfS ?_
            refine gNot ?_
            refine gB ?_
            refine gCall ?_
            refine gCons' ?_
            refine gV rfl ?_
            refine gCons' ?_
            refine gV rfl ?_
            refine gCons' ?_
            refine gV rfl ?_
            refine gCons' ?_
            refine gV rfl ?_
            refine gCons' ?_
            refine gV rfl ?_
            refine gCons' ?_
            refine gOp ?_
            refine gC ?_
            refine gCall ?_
            refine gCons' ?_
            refine gV rfl ?_
            refine gCons' ?_
            refine gOp ?_
            refine gV rfl ?_
            refine gC ?_
            refine ⟨_, _, rfl, rfl, ?_⟩
            refine gNil' ?_
            obtain ⟨⟨r26, bag_here5⟩, hq20, hm26⟩ := bindS hm23
            dsimp only at hm26
            refine ⟨G19, (O), a1, w15, bag_here3, (x2 + (1 : Int)), rfl, S23, h72, (r26, bag_here5), hq20, fun G22 H24 w17 e22 S27 h83 => ?_⟩
            have h84 := R.up e22 h71
            have h85 := R.up e22 h73
            have h86 := R.up e22 h74
            have E22 := E19.trans e22
            refine ⟨_, _, rfl, rfl, ?_⟩
            refine gNil' ?_
            obtain ⟨r27, hq21, hm27⟩ := bindS hm26
            refine ⟨G22, ((a1, HO.lst w17) :: O), (V.ref p2), r11, (V.ref p1), r8, ((1 : Int) + r4), ((1 : Int) + r2), x2, ((1 : Int) + r26), rfl, S27, h86, h85, r27, hq21, fun G23 H25 e23 S28 => ?_⟩
            have h87 := R.up e23 h84
            have h88 := Al.up e23 h83
            have h89 := R.up e23 h85
            have h90 := R.up e23 h86
            have E23 := E22.trans e23
            refine ⟨r27, rfl, ?_⟩
            refine ite2 (fun c3 => ?_) (fun c3 => ?_)
            · skip
              have hm28 := (if_pos c3).symm.trans hm27
              refine gRet ?_
              refine gC ?_
              have S29 := S28.tail
              cases hm28
              have hr3 := Option.some.inj (show some (Fl.rt _) = some res1 from hr1)
              subst hr3
              dsimp only at hm2
              cases hm2
              exact q G23 H25 E23 S29
            · skip
              have hm29 := (if_neg c3).symm.trans hm27
              refine gNext ?_
              have S30 := S28.tail
              cases hm29
              exact ⟨_, ⟨G23, _, _, _, _, _, _, _, ((((((((((((e1.trans e2).trans e3).trans e4).trans e5).trans e6).trans e7).trans e8).trans e15).trans e18).trans e19).trans e22).trans e23), S30, rfl⟩, hr1⟩
      · intro s σ H h1 h2
        obtain ⟨G, k1, k2, k3, k4, k5, k6, k7, ie, irest⟩ := h2
        exact ⟨s, h1, G, k1, k2, k3, k4, k5, k6, k7, (ie), irest⟩
    · intro σ2 H26 hJ1
      obtain ⟨s2, hres1, hJ2⟩ := hJ1
      subst hres1
      dsimp only at hm2
      obtain ⟨G24, y15, y16, y17, y18, y19, y20, y21, e24, S31, rfl⟩ := hJ2
      have h91 := R.up e24 h1
      have E24 := E0.trans e24
      refine gRet ?_
      refine gC ?_
      cases hm2
      exact q G24 H26 E24 S31
end
end Mr

set_option linter.all false
set_option maxRecDepth 100000
set_option maxHeartbeats 1000000
/-! DrawP: the law's source of draws. -/
namespace Mr
theorem bindOk {α β : Type} {o : Option α} {f : α → Option β} {a : α} {r : Option β} (h : o = some a) (h2 : f a = r) : o.bind f = r := by
  subst h; exact h2
theorem modM_pos {a b : Int} (h : 0 < b) : modM a b = some (a % b) := if_pos h
theorem fdivM_ok {a b : Int} (h : 0 < b) (h2 : b.natAbs.log2 < 9000) : fdivM a b = some (a / b) := if_pos ⟨h, h2⟩
theorem appM_ok {α : Type} {xs : List α} {x : α} (h : xs.length < 100000) : appM xs x = some (xs ++ [x]) := if_pos h
theorem getM_nat {α : Type} {xs : List α} {j : Nat} {x : α} (h : xs[j]? = some x) : getM xs (j : Int) = some x := by
  have hj : j < xs.length := (List.getElem?_eq_some_iff.mp h).1
  unfold getM ixM
  rw [if_pos (by omega), if_pos (by omega)]
  simpa using h
theorem rngM_ok {n : Int} (h : 0 ≤ n) (h2 : n < 2 ^ 62) : rngM n = some ((List.range n.toNat).map fun (i : Nat) => (i : Int)) := if_pos ⟨by omega, h2⟩
theorem folM_inv {α σ : Type} {f : σ → α → Option σ} (P : σ → Prop) : ∀ (xs : List α) (s : σ), P s → (∀ x ∈ xs, ∀ s, P s → ∃ s', f s x = some s' ∧ P s') → ∃ s', folM f xs s = some s' ∧ P s'
  | [], s, h, _ => ⟨s, rfl, h⟩
  | x :: xs, s, h, hs => by
    obtain ⟨s1, h1, p1⟩ := hs x (List.mem_cons_self ..) s h
    obtain ⟨s2, h2, p2⟩ := folM_inv P xs s1 p1 fun y hy => hs y (List.mem_cons_of_mem _ hy)
    exact ⟨s2, bindOk h1 h2, p2⟩
theorem forL_inv {α σ ρ : Type} {f : σ → α → Option (Bf σ ρ)} (P : σ → Prop) : ∀ (xs : List α) (s : σ), P s → (∀ x ∈ xs, ∀ s, P s → ∃ s', f s x = some (.go s') ∧ P s') → ∃ s', forL f xs s = some (.nx s') ∧ P s'
  | [], s, h, _ => ⟨s, rfl, h⟩
  | x :: xs, s, h, hs => by
    obtain ⟨s1, h1, p1⟩ := hs x (List.mem_cons_self ..) s h
    obtain ⟨s2, h2, p2⟩ := forL_inv P xs s1 p1 fun y hy => hs y (List.mem_cons_of_mem _ hy)
    exact ⟨s2, bindOk h1 h2, p2⟩
/-- all turns go on -/
def goL {α σ ρ : Type} (f : σ → α → Option (Bf σ ρ)) : List α → σ → Option σ
  | [], s => some s
  | x :: xs, s => match f s x with
    | some (.go s') => goL f xs s'
    | _ => none
theorem goL_cons {α σ ρ : Type} {f : σ → α → Option (Bf σ ρ)} {x : α} {xs : List α} {s s' : σ} (h : f s x = some (.go s')) : goL f (x :: xs) s = goL f xs s' := by
  show (match f s x with
    | some (.go s') => goL f xs s'
    | _ => none) = _
  rw [h]
theorem goL_for {α σ ρ : Type} {f : σ → α → Option (Bf σ ρ)} : ∀ {xs : List α} {s r : σ}, goL f xs s = some r → forL f xs s = some (.nx r)
  | [], s, r, h => by cases h; rfl
  | x :: xs, s, r, h => by
    have h' : (match f s x with
      | some (.go s') => goL f xs s'
      | _ => none) = some r := h
    split at h'
    · rename_i s' e
      exact bindOk e (goL_for h')
    · cases h'
theorem goL_app {α σ ρ : Type} {f : σ → α → Option (Bf σ ρ)} : ∀ {xs ys : List α} {s s1 : σ}, goL f xs s = some s1 → goL f (xs ++ ys) s = goL f ys s1
  | [], ys, s, s1, h => by cases h; rfl
  | x :: xs, ys, s, s1, h => by
    have h' : (match f s x with
      | some (.go s') => goL f xs s'
      | _ => none) = some s1 := h
    split at h'
    · rename_i s' e
      rw [List.cons_append, goL_cons e]
      exact goL_app h'
    · cases h'
theorem enumF_app {α : Type} : ∀ (xs ys : List α) (k : Nat), enumF k (xs ++ ys) = enumF k xs ++ enumF (k + xs.length) ys
  | [], ys, k => rfl
  | x :: xs, ys, k => by
    show ((k : Int), x) :: enumF (k + 1) (xs ++ ys) = ((k : Int), x) :: (enumF (k + 1) xs ++ enumF (k + (xs.length + 1)) ys)
    rw [enumF_app xs ys (k + 1)]
    have e : k + 1 + xs.length = k + (xs.length + 1) := by omega
    rw [e]
theorem log2_lt {n m : Nat} (h : n < 2 ^ m) (hm : 0 < m) : n.log2 < m := by
  by_cases h0 : n = 0
  · subst h0; simpa using hm
  · exact (Nat.log2_lt h0).mpr h

/-! ### bags -/
def BagOk (b : List Int) : Prop := ∃ g m c : Int, b = [g, m, c]
theorem draw_ok {b : List Int} {n : Int} (hb : BagOk b) (h0 : 0 < n) (h1 : n < 2 ^ 60) : ∃ x b', m_law_draw b n = some (x, b') ∧ 0 ≤ x ∧ x < n ∧ BagOk b' := by
  obtain ⟨g, m, c, rfl⟩ := hb
  have hl : n.natAbs.log2 < 9000 := Nat.lt_of_lt_of_le (log2_lt (m := 60) (by omega) (by decide)) (by decide)
  unfold m_law_draw
  by_cases hg : decide (g > 0) = true
  · exact ⟨g % n, [g / n, m, c], bindOk (a := g) rfl ((if_pos hg).trans (bindOk (a := g) rfl (bindOk (modM_pos h0) (bindOk (a := g) rfl (bindOk (fdivM_ok h0 hl) (bindOk (a := [g / n, m, c]) rfl rfl)))))),
      Int.emod_nonneg _ (by omega), Int.emod_lt_of_pos _ h0, _, _, _, rfl⟩
  · refine ⟨_, [g, (m * 48271 + 11 * (c + 1) + 7) % 2147483647, c + 1], bindOk (a := g) rfl ((if_neg hg).trans (bindOk (a := c) rfl (bindOk (a := [g, m, c + 1]) rfl (bindOk (a := m) rfl (bindOk (a := c + 1) rfl (bindOk (a := [g, (m * 48271 + 11 * (c + 1) + 7) % 2147483647, c + 1]) rfl
      (bindOk (a := (m * 48271 + 11 * (c + 1) + 7) % 2147483647) rfl (bindOk (a := c + 1) rfl (bindOk (modM_pos h0) rfl))))))))), ?_, ?_, _, _, _, rfl⟩
    · exact Int.emod_nonneg _ (by omega)
    · exact Int.emod_lt_of_pos _ h0
theorem bag_ok {ns : List Int} {j : Nat} : ∃ b, m_law_bag ns (j : Int) = some b ∧ BagOk b := by
  unfold m_law_bag
  obtain ⟨m, hm, _⟩ := folM_inv (f := m_law_bag_b1) (fun _ => True) (enumM (cutM ns none (some (63 : Int)))) ((1009 : Int) + ((77 : Int) * (j : Int))) True.intro (fun x _ s _ => ⟨_, rfl, True.intro⟩)
  by_cases h : decide ((j : Int) < (ns.length : Int)) = true
  · have hj : j < ns.length := by have := of_decide_eq_true h; omega
    exact ⟨_, bindOk ((if_pos h).trans (bindOk (getM_nat (List.getElem?_eq_getElem hj)) rfl)) (bindOk hm rfl), _, _, _, rfl⟩
  · exact ⟨_, bindOk (if_neg h) (bindOk hm rfl), _, _, _, rfl⟩
end Mr

set_option linter.all false
set_option maxRecDepth 100000
set_option maxHeartbeats 1000000
/-! FcA: boxes, their inks, steps. -/
namespace Mr
abbrev Pt := Int × Int
abbrev Bx := Int × Int × Int × Int
def ringB (b : Bx) : List Pt := [(b.1, b.2.1), (b.2.2.1, b.2.1), (b.2.2.1, b.2.2.2), (b.1, b.2.2.2)]
def BxOk (b : Bx) : Prop := 0 ≤ b.1 ∧ b.1 < b.2.2.1 ∧ b.2.2.1 ≤ 4 ∧ 0 ≤ b.2.1 ∧ b.2.1 < b.2.2.2 ∧ b.2.2.2 ≤ 4
def five : List Int := [0, 1, 2, 3, 4]
def four : List Int := [0, 1, 2, 3]
theorem mem_five {z : Int} (h : 0 ≤ z ∧ z ≤ 4) : z ∈ five := by
  have : z = 0 ∨ z = 1 ∨ z = 2 ∨ z = 3 ∨ z = 4 := by omega
  rcases this with e | e | e | e | e <;> rw [e] <;> decide
theorem mem_four {z : Int} (h : 0 ≤ z ∧ z ≤ 3) : z ∈ four := by
  have : z = 0 ∨ z = 1 ∨ z = 2 ∨ z = 3 := by omega
  rcases this with e | e | e | e <;> rw [e] <;> decide
theorem of_four {z : Int} (h : z ∈ four) : 0 ≤ z ∧ z ≤ 3 := by
  simp only [four, List.mem_cons, List.not_mem_nil, or_false] at h
  omega
theorem rng4 : rngM (4 : Int) = some four := rfl
def boxes : List Bx := (five.flatMap fun a => five.flatMap fun b => five.flatMap fun c => five.map fun d => (a, b, c, d)).filter fun b => decide (b.1 < b.2.2.1) && decide (b.2.1 < b.2.2.2)
theorem mem_boxes {b : Bx} (h : BxOk b) : b ∈ boxes := by
  obtain ⟨a, c, d, e⟩ := b
  obtain ⟨h1, h2, h3, h4, h5, h6⟩ := h
  dsimp only at h1 h2 h3 h4 h5 h6
  refine List.mem_filter.mpr ⟨List.mem_flatMap.mpr ⟨a, mem_five ⟨h1, by omega⟩, List.mem_flatMap.mpr ⟨c, mem_five ⟨h4, by omega⟩, List.mem_flatMap.mpr ⟨d, mem_five ⟨by omega, h3⟩, List.mem_map.mpr ⟨e, mem_five ⟨by omega, h6⟩, rfl⟩⟩⟩⟩, ?_⟩
  simp [h2, h5]
def insB (b : Bx) (x y : Int) : Bool := (decide (b.1 ≤ x) && decide (x < b.2.2.1)) && (decide (b.2.1 ≤ y) && decide (y < b.2.2.2))
theorem win_box : ∀ b ∈ boxes, ∀ x ∈ four, ∀ y ∈ four, folM (m_winding_b2 x y) (sidesM (ringB b)) 0 = some (if insB b x y = true then 1 else 0) := by decide +kernel
theorem ring_ok : ∀ b ∈ boxes, m_is_ring (ringB b) = some true := by decide +kernel
theorem wb2_add (x y : Int) : ∀ (ss : List (Pt × Pt)) (t u : Int), folM (m_winding_b2 x y) ss u = (some t) → ∀ v, folM (m_winding_b2 x y) ss (u + v) = some (t + v)
  | [], t, u, h, v => by cases h; rfl
  | (p, q) :: ss, t, u, h, v => by
    obtain ⟨z, h1, h2⟩ := bindS h
    obtain ⟨c, h3, h4⟩ := bindS h1
    cases h4
    refine bindOk (a := u + v + c) (bindOk h3 rfl) ?_
    rw [show u + v + c = (u + c) + v by omega]
    exact wb2_add x y ss t (u + c) h2 v
def hits (bs : List Bx) (x y : Int) : Int := ((bs.filter fun b => insB b x y).length : Int)
theorem wind_fol {x y : Int} (hx : x ∈ four) (hy : y ∈ four) : ∀ (bs : List Bx) (t : Int), (∀ b ∈ bs, BxOk b) → folM (m_winding_b1 x y) (bs.map ringB) t = some (t + hits bs x y)
  | [], t, _ => by simp [folM, hits]
  | b :: bs, t, h => by
    have hw := win_box b (mem_boxes (h b (List.mem_cons_self ..))) x hx y hy
    have h2 := wb2_add x y _ _ _ hw t
    refine bindOk (bindOk (by rw [show (0 : Int) + t = t by omega] at h2; exact h2) rfl) ?_
    refine (wind_fol hx hy bs _ (fun c hc => h c (List.mem_cons_of_mem _ hc))).trans ?_
    unfold hits
    congr 1
    cases e : insB b x y
    · rw [List.filter_cons_of_neg (p := fun b => insB b x y) (by simp [e])]; simp
    · rw [List.filter_cons_of_pos (p := fun b => insB b x y) e]; simp; omega
theorem wind_ok {bs : List Bx} {x y : Int} (hx : x ∈ four) (hy : y ∈ four) (h : ∀ b ∈ bs, BxOk b) : m_winding (bs.map ringB) x y = some (hits bs x y) := by
  unfold m_winding
  refine bindOk (wind_fol hx hy bs 0 h) ?_
  simp
/-! ### the ink -/
def cellB (bs : List Bx) (x y : Int) : Bool := bs.any fun b => insB b x y
def rowB (bs : List Bx) (y : Int) : Ink := four.map fun x => cellB bs x y
def inkB (bs : List Bx) : List Ink := four.map fun y => rowB bs y
def InkOk (i : List Ink) : Prop := i.length = 4 ∧ ∀ r ∈ i, r.length = 4
theorem inkB_ok (bs : List Bx) : InkOk (inkB bs) := by
  refine ⟨by simp [inkB, four], fun r hr => ?_⟩
  obtain ⟨y, _, rfl⟩ := List.mem_map.mp hr
  simp [rowB, four]
theorem cell_hits (bs : List Bx) (x y : Int) : (!decide (hits bs x y = 0)) = cellB bs x y := by
  unfold hits cellB
  rw [Bool.eq_iff_iff]
  simp only [Bool.not_eq_true', decide_eq_false_iff_not, List.any_eq_true]
  constructor
  · intro h
    have h2 : (bs.filter fun b => insB b x y) ≠ [] := fun e => h (by rw [e]; rfl)
    obtain ⟨b, hb⟩ := List.exists_mem_of_ne_nil _ h2
    exact ⟨b, (List.mem_filter.mp hb).1, (List.mem_filter.mp hb).2⟩
  · rintro ⟨b, h1, h2⟩ e
    have h3 : (bs.filter fun b => insB b x y) = [] := List.length_eq_zero_iff.mp (by omega)
    have h4 : b ∈ bs.filter fun b => insB b x y := List.mem_filter.mpr ⟨h1, h2⟩
    rw [h3] at h4
    cases h4
theorem ink_of_ok {bs : List Bx} (h : ∀ b ∈ bs, BxOk b) : m_ink_of (bs.map ringB) = some (inkB bs) := by
  have c2 : ∀ y ∈ four, ∀ (xs : List Int) (acc : List Ink), (∀ x ∈ xs, x ∈ four) → acc.length + xs.length ≤ 100 → folM (m_ink_of_c2 (bs.map ringB) y) xs acc = some (acc ++ xs.map fun x => [cellB bs x y]) := by
    intro y hy xs
    induction xs with
    | nil => intro acc _ _; simp [folM]
    | cons x xs ih =>
      intro acc hx hz
      have hz' : acc.length + (xs.length + 1) ≤ 100 := hz
      refine bindOk (a := acc ++ [[cellB bs x y]]) ?_ ?_
      · unfold m_ink_of_c2
        refine bindOk (a := [cellB bs x y]) (bindOk (wind_ok (hx x (List.mem_cons_self ..)) hy h) ?_) (bindOk (appM_ok (by omega)) rfl)
        rw [← cell_hits]
        cases decide (hits bs x y = 0) <;> rfl
      · refine (ih _ (fun z hz => hx z (List.mem_cons_of_mem _ hz)) (by simp; omega)).trans ?_
        simp
  have b1 : ∀ (ys : List Int) (acc : List Ink), (∀ y ∈ ys, y ∈ four) → acc.length + ys.length ≤ 100 → folM (m_ink_of_b1 (bs.map ringB)) ys acc = some (acc ++ ys.map fun y => rowB bs y) := by
    intro ys
    induction ys with
    | nil => intro acc _ _; simp [folM]
    | cons y ys ih =>
      intro acc hy hz
      have hz' : acc.length + (ys.length + 1) ≤ 100 := hz
      refine bindOk (a := acc ++ [rowB bs y]) ?_ ?_
      · unfold m_ink_of_b1
        refine bindOk rng4 (bindOk (c2 y (hy y (List.mem_cons_self ..)) four [] (fun _ z => z) (by simp [four])) (bindOk (a := rowB bs y) ?_ (bindOk (appM_ok (by omega)) rfl)))
        unfold rowB four
        rfl
      · refine (ih _ (fun z hz => hy z (List.mem_cons_of_mem _ hz)) (by simp; omega)).trans ?_
        simp
  unfold m_ink_of
  exact bindOk rng4 (bindOk (b1 four [] (fun _ z => z) (by simp [four])) (by simp [inkB]))
end Mr

set_option linter.all false
set_option maxRecDepth 100000
set_option maxHeartbeats 1000000
/-! FcB: steps and gaps. -/
namespace Mr
theorem rows4 (r : Ink) (h : r.length = 4) : r ∈ allI 4 := by
  match r, h with
  | [a, b, c, d], _ => cases a <;> cases b <;> cases c <;> cases d <;> decide +kernel
theorem rw1 : ∀ r ∈ allI 4, -1 ≤ rfnI r ∧ rfnI r ≤ 3 ∧ -1 ≤ fndI r ∧ fndI r ≤ 3 ∧ (true ∈ r → 0 ≤ rfnI r) := by decide +kernel
theorem rw2 : ∀ r ∈ allI 4, ∀ s ∈ ([0, 1, 2, 3, 4] : List Nat), rfnI r + 1 ≤ (s : Int) → (decide (true ∈ r.take s) = decide (0 ≤ rfnI r) ∧ ((r.take s).length : Int) = s ∧ (0 ≤ rfnI r → ((rstI (r.take s)).length : Int) = rfnI r + 1)) := by decide +kernel
theorem rw3 : ∀ r ∈ allI 4, decide (true ∈ r) = decide (0 ≤ fndI r) ∧ (0 ≤ fndI r → ((lstI r).length : Int) = 4 - fndI r) ∧ (lstI r).length ≤ 4 := by decide +kernel
theorem fndM_ok {r : Ink} (h : r.length = 4) : fndM r = some (fndI r) := if_pos (by omega)
theorem rfnM_ok {r : Ink} (h : r.length = 4) : rfnM r = some (rfnI r) := if_pos (by omega)
theorem step_fol : ∀ (xs : List Ink) (acc : List Int), (∀ r ∈ xs, r.length = 4) → acc.length + xs.length ≤ 100 → folM m_step_of_c1 xs acc = some (acc ++ xs.map rfnI)
  | [], acc, _, _ => by simp [folM]
  | x :: xs, acc, h, hz => by
    have hz' : acc.length + (xs.length + 1) ≤ 100 := hz
    refine bindOk (a := acc ++ [rfnI x]) (bindOk (rfnM_ok (h x (List.mem_cons_self ..))) (bindOk (appM_ok (by omega)) rfl)) ?_
    refine (step_fol xs _ (fun z hz => h z (List.mem_cons_of_mem _ hz)) (by simp; omega)).trans ?_
    simp
theorem max_ok {xs : List Int} (h : xs ≠ []) : ∃ m, maxM xs = some m ∧ (∀ y ∈ xs, y ≤ m) ∧ m ∈ xs := by
  cases xs with
  | nil => exact (h rfl).elim
  | cons x xs =>
    obtain ⟨h1, h2, h3⟩ := maxF_ge xs x
    refine ⟨_, rfl, fun y hy => ?_, ?_⟩
    · rcases List.mem_cons.mp hy with e | e
      · rw [e]; exact h1
      · exact h2 y e
    · rcases h3 with e | e
      · rw [e]; exact List.mem_cons_self ..
      · exact List.mem_cons_of_mem _ e
def stepV (i : List Ink) : Int := (maxM (i.map rfnI)).getD 0 + 1
theorem step_facts {i : List Ink} (h : InkOk i) : m_step_of i = some (stepV i) ∧ (∀ r ∈ i, rfnI r + 1 ≤ stepV i) ∧ 0 ≤ stepV i ∧ stepV i ≤ 4 := by
  obtain ⟨m, h1, h2, h3⟩ := max_ok (xs := i.map rfnI) (fun e => by
    have := congrArg List.length e
    rw [List.length_map, h.1] at this
    cases this)
  obtain ⟨r, hr, e⟩ := List.mem_map.mp h3
  have hv : stepV i = m + 1 := by unfold stepV; rw [h1]; rfl
  have f := rw1 r (rows4 r (h.2 r hr))
  refine ⟨?_, fun r hr => ?_, by omega, by omega⟩
  · unfold m_step_of
    refine bindOk (step_fol i [] h.2 (by rw [h.1]; decide)) ?_
    rw [List.nil_append]
    refine bindOk h1 ?_
    rw [hv]
  · have := h2 _ (List.mem_map.mpr ⟨r, hr, rfl⟩)
    omega
theorem get4 {i : List Ink} (h : InkOk i) {k : Int} (hk : k ∈ four) : ∃ r, getM i k = some r ∧ r ∈ i := by
  have hl := h.1
  have h4 := of_four hk
  have hlt : k.toNat < i.length := by omega
  refine ⟨i[k.toNat], ?_, List.getElem_mem _⟩
  have := getM_nat (List.getElem?_eq_getElem hlt)
  rw [Int.toNat_of_nonneg h4.1] at this
  exact this
theorem left_ok {i : List Ink} {k : Int} {r : Ink} (hk : getM i k = some r) (hr : r.length = 4) : m_leftmost i k = some (if fndI r < 0 then none else some (fndI r)) := by
  unfold m_leftmost
  refine bindOk hk (bindOk (fndM_ok hr) ?_)
  by_cases h : fndI r < 0
  · rw [if_pos (by simpa using h), if_pos h]; rfl
  · rw [if_neg (by simpa using h), if_neg h]; rfl
theorem right_ok {i : List Ink} {k : Int} {r : Ink} (hk : getM i k = some r) (hr : r.length = 4) : m_rightmost i k = some (if rfnI r < 0 then none else some (rfnI r)) := by
  unfold m_rightmost
  refine bindOk hk (bindOk (rfnM_ok hr) ?_)
  by_cases h : rfnI r < 0
  · rw [if_pos (by simpa using h), if_pos h]; rfl
  · rw [if_neg (by simpa using h), if_neg h]; rfl
/-- the free cells of a row between two inks that touch; none where one has no ink there -/
def fr (a b : List Ink) (k : Int) : Option Int := (getM a k).bind fun r => (getM b k).bind fun t => if rfnI r < 0 ∨ fndI t < 0 then none else some (stepV a - 1 - rfnI r + fndI t)
theorem blanks_ok {a b : List Ink} (ha : InkOk a) (hb : InkOk b) {k g : Int} (hk : k ∈ four) : m_blanks a b k g = some ((fr a b k).map fun f => f + g) := by
  obtain ⟨hs, s2, s3, s4⟩ := step_facts ha
  obtain ⟨r, gr, mr⟩ := get4 ha hk
  obtain ⟨t, gt, mt⟩ := get4 hb hk
  have lr := ha.2 r mr
  have lt := hb.2 t mt
  unfold m_blanks fr
  rw [gr, gt]
  refine bindOk (right_ok gr lr) (bindOk (left_ok gt lt) ?_)
  by_cases h1 : rfnI r < 0
  · simp [h1]
  · by_cases h2 : fndI t < 0
    · simp [h1, h2]
    · have h3 : ¬ (rfnI r < 0 ∨ fndI t < 0) := by omega
      simp only [Option.bind_some, if_neg h3, if_neg h1, if_neg h2]
      rw [if_neg (by simp)]
      refine bindOk hs ?_
      show some (some (stepV a + g + fndI t - rfnI r - 1)) = some (some (stepV a - 1 - rfnI r + fndI t + g))
      congr 2
      omega
theorem cut_take (r : Ink) (s : Int) (h : 0 ≤ s) (h4 : s ≤ 4) (hr : r.length = 4) : cutI r none (some s) = some (r.take s.toNat) := by
  unfold cutI
  rw [if_pos (by omega)]
  obtain ⟨k, rfl⟩ : ∃ k : Nat, s = (k : Int) := ⟨s.toNat, by omega⟩
  have e : slIx r.length r.length (some (k : Int)) = k := by
    show (if (k : Int) < 0 then ((k : Int) + (r.length : Int)).toNat else min (k : Int).toNat r.length) = k
    rw [if_neg (by omega), Int.toNat_natCast, Nat.min_eq_left (by omega)]
  unfold cutM
  rw [e, Int.toNat_natCast]
  show some ((r.drop 0).take (k - 0)) = _
  simp
theorem fr_nn {a b : List Ink} (ha : InkOk a) (hb : InkOk b) {k f : Int} (hk : k ∈ four) (h : fr a b k = some f) : 0 ≤ f := by
  obtain ⟨_, s2, _, _⟩ := step_facts ha
  obtain ⟨r, gr, mr⟩ := get4 ha hk
  obtain ⟨t, gt, mt⟩ := get4 hb hk
  unfold fr at h
  rw [gr, gt] at h
  simp only [Option.bind_some] at h
  have := s2 r mr
  by_cases h3 : rfnI r < 0 ∨ fndI t < 0
  · rw [if_pos h3] at h; cases h
  · rw [if_neg h3] at h; cases h; omega
/-! the law's gap -/
def shorts (a b : List Ink) (p : Int) : List Int := 0 :: four.filterMap fun k => (fr a b k).map fun f => p - f
def gapV (a b : List Ink) (p : Int) : Int := (maxM (shorts a b p)).getD 0
theorem gap_facts (a b : List Ink) (p : Int) : maxM (shorts a b p) = some (gapV a b p) ∧ (∀ y ∈ shorts a b p, y ≤ gapV a b p) ∧ gapV a b p ∈ shorts a b p := by
  obtain ⟨m, h1, h2, h3⟩ := max_ok (xs := shorts a b p) (by simp [shorts])
  have e : gapV a b p = m := by unfold gapV; rw [h1]; rfl
  rw [e]
  exact ⟨h1, h2, h3⟩
/-! the program's gap -/
def barP (a b : List Ink) (p g : Int) (k : Int) : Bool := match fr a b k with
  | some f => decide (f + g < p)
  | none => false
theorem bars_ok {a b : List Ink} (ha : InkOk a) (hb : InkOk b) (g p : Int) : m_row_that_bars a b g p = some (four.find? (barP a b p g)) := by
  have row : ∀ k ∈ four, m_row_that_bars_b1 a b g p () k = some (if barP a b p g k = true then .rt (some k) else .go ()) := by
    intro k hk
    unfold m_row_that_bars_b1
    refine bindOk (blanks_ok ha hb hk) ?_
    unfold barP
    cases fr a b k with
    | none => rfl
    | some f =>
      by_cases h : f + g < p
      · simp [h]
      · simp [h]
  have fol : ∀ ks : List Int, (∀ k ∈ ks, k ∈ four) → forL (m_row_that_bars_b1 a b g p) ks () = some (match ks.find? (barP a b p g) with
      | some k => .rt (some k)
      | none => .nx ()) := by
    intro ks
    induction ks with
    | nil => intro _; rfl
    | cons k ks ih =>
      intro hk
      have e := row k (hk k (List.mem_cons_self ..))
      have i := ih fun z hz => hk z (List.mem_cons_of_mem _ hz)
      rw [forL_cons]
      refine bindOk e ?_
      cases hp : barP a b p g k
      · rw [List.find?_cons_of_neg (by simp [hp])]
        exact i
      · rw [List.find?_cons_of_pos hp]
        rfl
  unfold m_row_that_bars
  refine bindOk rng4 (bindOk (fol four fun _ z => z) ?_)
  cases four.find? (barP a b p g) <;> rfl
theorem bars_none {a b : List Ink} {p g : Int} (hg : 0 ≤ g) : four.find? (barP a b p g) = none ↔ gapV a b p ≤ g := by
  obtain ⟨_, h2, h3⟩ := gap_facts a b p
  rw [List.find?_eq_none]
  constructor
  · intro h
    rcases List.mem_cons.mp h3 with e | e
    · omega
    · obtain ⟨k, hk, e⟩ := List.mem_filterMap.mp e
      have := h k hk
      unfold barP at this
      cases hf : fr a b k with
      | none => rw [hf] at e; cases e
      | some f =>
        rw [hf] at e this
        have e : p - f = gapV a b p := Option.some.inj e
        simp only [decide_eq_true_eq] at this
        omega
  · intro h k hk hb
    unfold barP at hb
    cases hf : fr a b k with
    | none => rw [hf] at hb; cases hb
    | some f =>
      rw [hf] at hb
      simp only [decide_eq_true_eq] at hb
      have := h2 (p - f) (List.mem_cons_of_mem _ (List.mem_filterMap.mpr ⟨k, hk, by rw [hf]; rfl⟩))
      omega
theorem gapV_nn (a b : List Ink) (p : Int) : 0 ≤ gapV a b p := (gap_facts a b p).2.1 0 (List.mem_cons_self ..)
theorem gapV_le {a b : List Ink} (ha : InkOk a) (hb : InkOk b) {p : Int} (hp : 0 ≤ p) : gapV a b p ≤ p := by
  rcases List.mem_cons.mp (gap_facts a b p).2.2 with e | e
  · omega
  · obtain ⟨k, hk, e⟩ := List.mem_filterMap.mp e
    cases hf : fr a b k with
    | none => rw [hf] at e; cases e
    | some f =>
      rw [hf] at e
      have e : p - f = gapV a b p := Option.some.inj e
      have := fr_nn ha hb hk hf
      omega
theorem while_ok {a b : List Ink} (ha : InkOk a) (hb : InkOk b) (p : Int) : ∀ (d : Nat) (n : Nat) (g : Int) (r : Option Int), 0 ≤ g → g + d = gapV a b p → d < n → ∃ r', whL (m_Face_gap_and_bar_b1 p a b) n (g, r) = some (.nx (gapV a b p, r'))
  | 0, n, g, r, hg, e, hn => by
    obtain ⟨m, rfl⟩ : ∃ m, n = m + 1 := ⟨n - 1, by omega⟩
    have e0 : g = gapV a b p := by omega
    refine ⟨r, ?_⟩
    rw [whL_succ]
    have hnone := (bars_none (a := a) (b := b) (p := p) hg).mpr (by omega)
    refine bindOk (a := .bk (g, r)) ?_ (by rw [e0]; rfl)
    unfold m_Face_gap_and_bar_b1
    refine bindOk (bars_ok ha hb g p) ?_
    rw [hnone]; rfl
  | d + 1, n, g, r, hg, e, hn => by
    obtain ⟨m, rfl⟩ : ∃ m, n = m + 1 := ⟨n - 1, by omega⟩
    cases hf : four.find? (barP a b p g) with
    | none =>
      have := (bars_none (a := a) (b := b) (p := p) hg).mp hf
      omega
    | some k =>
      obtain ⟨r', h⟩ := while_ok ha hb p d m (g + 1) (some k) (by omega) (by omega) (by omega)
      refine ⟨r', ?_⟩
      rw [whL_succ]
      refine bindOk (a := .go (g + 1, some k)) ?_ (show conW _ m (.go (g + 1, some k)) = _ from h)
      unfold m_Face_gap_and_bar_b1
      refine bindOk (bars_ok ha hb g p) ?_
      rw [hf]; rfl
theorem gap_and_bar_ok {a b : List Ink} (ha : InkOk a) (hb : InkOk b) {p : Int} (hp : 0 ≤ p ∧ p ≤ 2) : ∃ r, m_Face_gap_and_bar p a b = some (gapV a b p, r) := by
  have h1 := gapV_nn a b p
  have h2 := gapV_le ha hb hp.1
  obtain ⟨r, h⟩ := while_ok ha hb p (gapV a b p).toNat 1000000 0 none (by omega) (by omega) (by omega)
  exact ⟨r, bindOk h rfl⟩
end Mr

set_option linter.all false
set_option maxRecDepth 100000
set_option maxHeartbeats 1000000
/-! FcC: faces of boxes. -/
namespace Mr
theorem copy_fol {α : Type} {f : List α → α → Option (List α)} (hf : ∀ acc x, f acc x = (appM acc x).bind some) : ∀ (xs acc : List α), acc.length + xs.length ≤ 1000 → folM f xs acc = some (acc ++ xs)
  | [], acc, _ => by simp [folM]
  | x :: xs, acc, hz => by
    have hz' : acc.length + (xs.length + 1) ≤ 1000 := hz
    refine bindOk (a := acc ++ [x]) ((hf acc x).trans (bindOk (appM_ok (by omega)) rfl)) ?_
    refine (copy_fol hf xs _ (by simp; omega)).trans ?_
    simp
theorem map_fol {α β : Type} {f : List β → α → Option (List β)} {g : α → β} : ∀ (xs : List α) (acc : List β), (∀ acc x, x ∈ xs → acc.length < 1000 → f acc x = some (acc ++ [g x])) → acc.length + xs.length ≤ 1000 → folM f xs acc = some (acc ++ xs.map g)
  | [], acc, _, _ => by simp [folM]
  | x :: xs, acc, hf, hz => by
    have hz' : acc.length + (xs.length + 1) ≤ 1000 := hz
    refine bindOk (hf acc x (List.mem_cons_self ..) (by omega)) ?_
    refine (map_fol xs _ (fun acc y hy => hf acc y (List.mem_cons_of_mem _ hy)) (by simp; omega)).trans ?_
    simp
theorem mem_enum {α : Type} {xs : List α} {x : Int × α} (h : x ∈ enumM xs) : x.2 ∈ xs := by
  obtain ⟨i, hi⟩ := List.mem_iff_getElem?.mp h
  rw [enumM_get] at hi
  obtain ⟨y, h1, h2⟩ := Option.map_eq_some_iff.mp hi
  rw [← h2]
  exact List.mem_of_getElem? h1
def LtOk (bs : List Bx) : Prop := (1 ≤ bs.length ∧ bs.length ≤ 2) ∧ ∀ b ∈ bs, BxOk b
theorem outline_ok (w : Wrd) {bs : List Bx} (h : LtOk bs) : m_outline_of w (bs.map ringB) = some (bs.map ringB) := by
  obtain ⟨⟨h1, h2⟩, hb⟩ := h
  unfold m_outline_of
  refine bindOk (a := false) ?_ ?_
  · rw [if_neg (by decide), List.length_map]
    congr 1
    simp
    omega
  · rw [if_neg (by decide)]
    obtain ⟨s, hs, _⟩ := forL_inv (f := m_outline_of_b1) (fun _ => True) (enumM (bs.map ringB)) () True.intro (fun x hx s _ => by
      refine ⟨(), ?_, True.intro⟩
      obtain ⟨b, hb1, hb2⟩ := List.mem_map.mp (mem_enum hx)
      obtain ⟨k, r⟩ := x
      dsimp only at hb2
      subst hb2
      unfold m_outline_of_b1
      exact bindOk (ring_ok b (mem_boxes (hb b hb1))) rfl)
    refine bindOk hs ?_
    refine bindOk (map_fol (g := id) (bs.map ringB) [] (fun acc x hx hz => ?_) (by simp; omega)) (by simp)
    unfold m_outline_of_c2
    obtain ⟨b, hb1, hb2⟩ := List.mem_map.mp hx
    subst hb2
    refine bindOk (copy_fol (f := m_outline_of_c3) (fun _ _ => rfl) (ringB b) [] (by simp [ringB])) (bindOk (appM_ok (by omega)) ?_)
    simp
theorem step_pos {bs : List Bx} (h : LtOk bs) : 1 ≤ stepV (inkB bs) := by
  obtain ⟨⟨h1, h2⟩, hb⟩ := h
  obtain ⟨b, hbm⟩ : ∃ b, b ∈ bs := List.exists_mem_of_length_pos (by omega)
  obtain ⟨q1, q2, q3, q4, q5, q6⟩ := hb b hbm
  have hy : b.2.1 ∈ four := mem_four ⟨q4, by omega⟩
  have hx : b.1 ∈ four := mem_four ⟨q1, by omega⟩
  have hr : rowB bs b.2.1 ∈ inkB bs := List.mem_map.mpr ⟨_, hy, rfl⟩
  have ht : true ∈ rowB bs b.2.1 := List.mem_map.mpr ⟨_, hx, by
    unfold cellB
    rw [List.any_eq_true]
    exact ⟨b, hbm, by simp [insB]; omega⟩⟩
  have hl := (inkB_ok bs).2 _ hr
  have f := (rw1 _ (rows4 _ hl)).2.2.2.2 ht
  have := (step_facts (inkB_ok bs)).2.1 _ hr
  omega
theorem inks_fol : ∀ (ws : List Wrd) (bss : List (List Bx)) (acc : List (List Ink)), bss.length ≤ ws.length → (∀ bs ∈ bss, LtOk bs) → acc.length + bss.length ≤ 100 →
    forL m_Face___init___b1 (List.zip ws (bss.map fun bs => bs.map ringB)) acc = some (.nx (acc ++ bss.map inkB))
  | ws, [], acc, _, _, _ => by simp [forL]
  | [], _ :: _, _, h, _, _ => by simp at h
  | w :: ws, bs :: bss, acc, h, hb, hz => by
    have hz' : acc.length + (bss.length + 1) ≤ 100 := hz
    have hl : bss.length + 1 ≤ ws.length + 1 := h
    have h0 := hb bs (List.mem_cons_self ..)
    have hp := step_pos h0
    rw [List.map_cons, List.zip_cons_cons, forL_cons]
    refine bindOk (a := .go (acc ++ [inkB bs])) ?_ ?_
    · unfold m_Face___init___b1
      refine bindOk (outline_ok w h0) (bindOk (ink_of_ok h0.2) (bindOk (step_facts (inkB_ok bs)).1 ?_))
      rw [if_neg (by simp; omega)]
      exact bindOk (appM_ok (by omega)) rfl
    · refine (inks_fol ws bss (acc ++ [inkB bs]) (by omega) (fun c hc => hb c (List.mem_cons_of_mem _ hc)) (by simp; omega)).trans ?_
      simp
/-! ### the pairs -/
theorem getW_putW {α : Type} (kvs : List (Wrd × α)) (w u : Wrd) (x : α) : getW (putW kvs w x) u = if u = w then some x else getW kvs u := by
  have map_ne : ∀ kvs : List (Wrd × α), u ≠ w → getW (kvs.map fun p => if p.1 = w then (p.1, x) else p) u = getW kvs u := by
    intro kvs hu
    unfold getW
    induction kvs with
    | nil => rfl
    | cons p kvs ih =>
      rw [List.map_cons]
      by_cases c : p.1 = w
      · rw [if_pos c, List.find?_cons_of_neg (by simp; intro e; exact hu (by rw [← e, c])), List.find?_cons_of_neg (by simp; intro e; exact hu (by rw [← e, c]))]
        exact ih
      · rw [if_neg c]
        by_cases d : p.1 = u
        · rw [List.find?_cons_of_pos (by simpa using d), List.find?_cons_of_pos (by simpa using d)]
        · rw [List.find?_cons_of_neg (by simpa using d), List.find?_cons_of_neg (by simpa using d)]
          exact ih
  have map_eq : ∀ kvs : List (Wrd × α), (kvs.any fun p => decide (p.1 = w)) = true → getW (kvs.map fun p => if p.1 = w then (p.1, x) else p) w = some x := by
    intro kvs
    unfold getW
    induction kvs with
    | nil => intro h; cases h
    | cons p kvs ih =>
      intro h
      rw [List.map_cons]
      by_cases c : p.1 = w
      · rw [if_pos c, List.find?_cons_of_pos (by simpa using c)]; rfl
      · rw [if_neg c, List.find?_cons_of_neg (by simpa using c)]
        exact ih (by simpa [c] using h)
  unfold putW
  by_cases c : (kvs.any fun p => decide (p.1 = w)) = true
  · rw [if_pos c]
    by_cases e : u = w
    · subst e; rw [if_pos rfl]; exact map_eq kvs c
    · rw [if_neg e]; exact map_ne kvs e
  · rw [if_neg c]
    have hn : getW kvs w = none := by
      unfold getW
      rw [List.find?_eq_none.mpr]; rfl
      intro p hp hd
      exact c (List.any_eq_true.mpr ⟨p, hp, hd⟩)
    have happ : getW (kvs ++ [(w, x)]) u = (getW kvs u).or (if w = u then some x else none) := by
      unfold getW
      rw [List.find?_append]
      cases hh : kvs.find? fun p => decide (p.1 = u) with
      | some q => rfl
      | none =>
        rw [Option.none_or]
        show Option.map _ (List.find? _ [(w, x)]) = Option.or none _
        rw [Option.none_or]
        by_cases e : w = u
        · rw [List.find?_cons_of_pos (by simpa using e), if_pos e]; rfl
        · rw [List.find?_cons_of_neg (by simpa using e), if_neg e]; rfl
    rw [happ]
    by_cases e : u = w
    · subst e; rw [hn]; simp
    · rw [if_neg (fun z => e z.symm), if_neg e]; simp
theorem putW_len {α : Type} (kvs : List (Wrd × α)) (w : Wrd) (x : α) : (putW kvs w x).length ≤ kvs.length + 1 := by
  unfold putW
  split <;> simp
def putAll {α : Type} (L : List (Wrd × α)) (kvs : List (Wrd × α)) : List (Wrd × α) := L.foldl (fun k p => putW k p.1 p.2) kvs
theorem putAll_len {α : Type} : ∀ (L kvs : List (Wrd × α)), (putAll L kvs).length ≤ kvs.length + L.length
  | [], kvs => by simp [putAll]
  | p :: L, kvs => by
    have h1 := putW_len kvs p.1 p.2
    have h2 := putAll_len L (putW kvs p.1 p.2)
    show (putAll L (putW kvs p.1 p.2)).length ≤ _
    rw [List.length_cons]; omega
theorem putAll_get {α : Type} {F : Wrd → Option α} : ∀ (L kvs : List (Wrd × α)) (k : Wrd), (∀ p ∈ L, F p.1 = some p.2) → ((∃ p ∈ L, p.1 = k) → getW (putAll L kvs) k = F k) ∧ ((¬ ∃ p ∈ L, p.1 = k) → getW (putAll L kvs) k = getW kvs k)
  | [], kvs, k, _ => ⟨fun h => (let ⟨_, hp, _⟩ := h; nomatch hp), fun _ => rfl⟩
  | p :: L, kvs, k, h => by
    have ih := putAll_get (F := F) L (putW kvs p.1 p.2) k fun q hq => h q (List.mem_cons_of_mem _ hq)
    by_cases c : ∃ q ∈ L, q.1 = k
    · refine ⟨fun _ => ih.1 c, fun hn => absurd (let ⟨q, h1, h2⟩ := c; ⟨q, List.mem_cons_of_mem _ h1, h2⟩) hn⟩
    · have e := ih.2 c
      rw [getW_putW] at e
      refine ⟨fun ⟨q, h1, h2⟩ => ?_, fun hn => ?_⟩
      · rcases List.mem_cons.mp h1 with z | z
        · rw [show getW (putAll (p :: L) kvs) k = _ from e, if_pos (by rw [← h2, z]), ← h2, z]
          exact (h p (List.mem_cons_self ..)).symm
        · exact absurd ⟨q, z, h2⟩ c
      · rw [show getW (putAll (p :: L) kvs) k = _ from e, if_neg fun z => hn ⟨p, List.mem_cons_self .., z.symm⟩]
theorem putWM_ok {α : Type} {kvs : List (Wrd × α)} {w : Wrd} {x : α} (h : kvs.length < 1000) : putWM kvs w x = some (putW kvs w x) := if_pos (by omega)
theorem catT_ok {a b : Wrd} (h : a.length + b.length ≤ 1000) : catT a b = some (a ++ b) := if_pos (by omega)
/-- the gap and the bar of two inks -/
def gbV (p : Int) (a b : List Ink) : Int × Option Int := (m_Face_gap_and_bar p a b).getD (0, none)
theorem gbV_ok {a b : List Ink} (ha : InkOk a) (hb : InkOk b) {p : Int} (hp : 0 ≤ p ∧ p ≤ 2) : m_Face_gap_and_bar p a b = some (gbV p a b) ∧ (gbV p a b).1 = gapV a b p := by
  obtain ⟨r, h⟩ := gap_and_bar_ok ha hb hp
  have e : gbV p a b = (gapV a b p, r) := by unfold gbV; rw [h]; rfl
  rw [e]
  exact ⟨h, rfl⟩
theorem b3_fol {p : Int} (hp : 0 ≤ p ∧ p ≤ 2) {x3 : Wrd} {x4 : List Ink} (h3 : x3.length = 1) (h4 : InkOk x4) : ∀ (zs : List (Wrd × List Ink)) (kvs : List (Wrd × (Int × Option Int))), (∀ z ∈ zs, z.1.length = 1 ∧ InkOk z.2) → kvs.length + zs.length ≤ 500 →
    folM (m_Face___init___b3 p x3 x4) zs kvs = some (putAll (zs.map fun z => (x3 ++ z.1, gbV p x4 z.2)) kvs)
  | [], kvs, _, _ => rfl
  | z :: zs, kvs, h, hz => by
    have hz' : kvs.length + (zs.length + 1) ≤ 500 := hz
    obtain ⟨h1, h2⟩ := h z (List.mem_cons_self ..)
    refine bindOk (a := putW kvs (x3 ++ z.1) (gbV p x4 z.2)) ?_ ?_
    · obtain ⟨w, b⟩ := z
      dsimp only at h1 h2
      unfold m_Face___init___b3
      refine bindOk (gbV_ok h4 h2 hp).1 (bindOk (catT_ok (by omega)) (bindOk (putWM_ok (by omega)) rfl))
    · refine (b3_fol hp h3 h4 zs _ (fun y hy => h y (List.mem_cons_of_mem _ hy)) ?_).trans rfl
      have := putW_len kvs (x3 ++ z.1) (gbV p x4 z.2)
      omega
def lets : List Wrd := [[97], [98], [99], [100]]
def prs (p : Int) (inks : List (List Ink)) (z : Wrd × List Ink) : List (Wrd × (Int × Option Int)) := (List.zip lets inks).map fun y => (z.1 ++ y.1, gbV p z.2 y.2)
theorem zip_ok {inks : List (List Ink)} (hi : ∀ i ∈ inks, InkOk i) : ∀ z ∈ List.zip lets inks, z.1.length = 1 ∧ InkOk z.2 := fun z hz => by
  have h1 := (List.of_mem_zip hz).1
  have h2 := (List.of_mem_zip hz).2
  refine ⟨?_, hi _ h2⟩
  simp only [lets, List.mem_cons, List.not_mem_nil, or_false] at h1
  rcases h1 with e | e | e | e <;> rw [e] <;> rfl
theorem prs_len (p : Int) (inks : List (List Ink)) (z : Wrd × List Ink) : (prs p inks z).length ≤ 4 := by
  unfold prs
  rw [List.length_map, List.length_zip]
  exact Nat.min_le_left ..
theorem putAll_app {α : Type} (A B kvs : List (Wrd × α)) : putAll (A ++ B) kvs = putAll B (putAll A kvs) := by unfold putAll; rw [List.foldl_append]
theorem b2_fol {p : Int} (hp : 0 ≤ p ∧ p ≤ 2) {inks : List (List Ink)} (hi : ∀ i ∈ inks, InkOk i) : ∀ (zs : List (Wrd × List Ink)) (kvs : List (Wrd × (Int × Option Int))), (∀ z ∈ zs, z.1.length = 1 ∧ InkOk z.2) → kvs.length + 4 * zs.length ≤ 400 →
    folM (m_Face___init___b2 p inks) zs kvs = some (putAll (zs.flatMap (prs p inks)) kvs)
  | [], kvs, _, _ => rfl
  | z :: zs, kvs, h, hz => by
    have hz' : kvs.length + 4 * (zs.length + 1) ≤ 400 := hz
    obtain ⟨h1, h2⟩ := h z (List.mem_cons_self ..)
    have hzl : (List.zip lets inks).length ≤ 4 := by rw [List.length_zip]; exact Nat.min_le_left ..
    refine bindOk (a := putAll (prs p inks z) kvs) ?_ ?_
    · obtain ⟨w, b⟩ := z
      dsimp only at h1 h2
      unfold m_Face___init___b2
      exact bindOk (b3_fol hp h1 h2 (List.zip lets inks) kvs (zip_ok hi) (by omega)) rfl
    · rw [List.flatMap_cons, putAll_app]
      refine b2_fol hp hi zs _ (fun y hy => h y (List.mem_cons_of_mem _ hy)) ?_
      have e1 := putAll_len (prs p inks z) kvs
      have e2 := prs_len p inks z
      omega
/-- what a face tells -/
structure FcOk (f : Face) (inks : List (List Ink)) (p : Int) : Prop where
  ink : f.inks = inks
  len : 1 ≤ inks.length ∧ inks.length ≤ 4
  oks : ∀ i ∈ inks, InkOk i
  ap : 0 ≤ p ∧ p ≤ 2
  gap : ∀ i j (a b : List Ink), inks[i]? = some a → inks[j]? = some b → ∃ r, getW f.gaps_and_bars [97 + i, 97 + j] = some (gapV a b p, r)
def fOf (p : Int) (inks : List (List Ink)) : Wrd → Option (Int × Option Int)
  | [c, d] => some (gbV p (inks.getD (c - 97) []) (inks.getD (d - 97) []))
  | _ => none
theorem face_ok {bss : List (List Bx)} {p : Int} (h : ∀ bs ∈ bss, LtOk bs) (hl : 1 ≤ bss.length ∧ bss.length ≤ 4) (hp : 0 ≤ p ∧ p ≤ 2) : ∃ f, m_Face___init__ (bss.map fun bs => bs.map ringB) p = some f ∧ FcOk f (bss.map inkB) p := by
  have hi : ∀ i ∈ bss.map inkB, InkOk i := fun i hi => by
    obtain ⟨b, _, rfl⟩ := List.mem_map.mp hi
    exact inkB_ok b
  have hin : (bss.map inkB).length ≤ 4 := by rw [List.length_map]; exact hl.2
  refine ⟨⟨p, bss.map inkB, putAll ((List.zip lets (bss.map inkB)).flatMap (prs p (bss.map inkB))) []⟩, ?_, rfl, by rw [List.length_map]; exact hl, hi, hp, fun i j a b h1 h2 => ?_⟩
  · unfold m_Face___init__
    refine bindOk (a := none) ?_ ?_
    · unfold m_bad_count
      rw [List.length_map]
      rw [if_neg (by simp; omega), if_neg (by simp; omega)]
    · rw [if_neg (by simp)]
      refine bindOk (inks_fol lets bss [] (by simp [lets]; omega) h (by simp; omega)) ?_
      dsimp only
      rw [List.nil_append]
      refine bindOk (b2_fol hp hi _ [] (zip_ok hi) ?_) rfl
      rw [List.length_zip]
      have : min lets.length (bss.map inkB).length ≤ 4 := Nat.min_le_left ..
      simp only [List.length_nil]
      omega
  · have ok1 : ∀ i a, (bss.map inkB)[i]? = some a → ([97 + i], a) ∈ List.zip lets (bss.map inkB) := fun i a hh => by
      have hlt : i < (bss.map inkB).length := (List.getElem?_eq_some_iff.mp hh).1
      refine List.mem_of_getElem? (i := i) ?_
      rw [List.getElem?_zip_eq_some]
      refine ⟨?_, hh⟩
      have : i = 0 ∨ i = 1 ∨ i = 2 ∨ i = 3 := by omega
      rcases this with e | e | e | e <;> subst e <;> rfl
    have hF : ∀ q ∈ (List.zip lets (bss.map inkB)).flatMap (prs p (bss.map inkB)), fOf p (bss.map inkB) q.1 = some q.2 := by
      intro q hq
      obtain ⟨z, hz, hq⟩ := List.mem_flatMap.mp hq
      obtain ⟨y, hy, rfl⟩ := List.mem_map.mp hq
      have at_ : ∀ z ∈ List.zip lets (bss.map inkB), ∃ c, z.1 = [c] ∧ (bss.map inkB).getD (c - 97) [] = z.2 := by
        intro z hz
        obtain ⟨k, hk⟩ := List.mem_iff_getElem?.mp hz
        obtain ⟨h1, h2⟩ := List.getElem?_zip_eq_some.mp hk
        have hlt : k < lets.length := (List.getElem?_eq_some_iff.mp h1).1
        have hlt : k < 4 := hlt
        refine ⟨97 + k, ?_, ?_⟩
        · have : k = 0 ∨ k = 1 ∨ k = 2 ∨ k = 3 := by omega
          rcases this with e | e | e | e <;> subst e <;> exact (Option.some.inj h1).symm
        · rw [show 97 + k - 97 = k by omega, List.getD_eq_getElem?_getD, h2]; rfl
      obtain ⟨c, e1, e2⟩ := at_ z hz
      obtain ⟨d, e3, e4⟩ := at_ y hy
      show fOf p (bss.map inkB) (z.1 ++ y.1) = some (gbV p z.2 y.2)
      rw [e1, e3]
      show some (gbV p ((bss.map inkB).getD (c - 97) []) ((bss.map inkB).getD (d - 97) [])) = _
      rw [e2, e4]
    have hm : ([97 + i, 97 + j], gbV p a b) ∈ prs p (bss.map inkB) ([97 + i], a) := List.mem_map.mpr ⟨([97 + j], b), ok1 j b h2, rfl⟩
    have hm2 : ([97 + i, 97 + j], gbV p a b) ∈ (List.zip lets (bss.map inkB)).flatMap (prs p (bss.map inkB)) := List.mem_flatMap.mpr ⟨([97 + i], a), ok1 i a h1, hm⟩
    have g := (putAll_get _ [] [97 + i, 97 + j] hF).1 ⟨_, hm2, rfl⟩
    have e := gbV_ok (hi a (List.mem_of_getElem? h1)) (hi b (List.mem_of_getElem? h2)) hp
    refine ⟨(gbV p a b).2, g.trans ?_⟩
    show some (gbV p ((bss.map inkB).getD (97 + i - 97) []) ((bss.map inkB).getD (97 + j - 97) [])) = _
    rw [show 97 + i - 97 = i by omega, show 97 + j - 97 = j by omega, List.getD_eq_getElem?_getD, List.getD_eq_getElem?_getD, h1, h2]
    show some (gbV p a b) = _
    rw [← e.2]
end Mr

set_option linter.all false
set_option maxRecDepth 1000000
set_option maxHeartbeats 4000000
/-! Chk: the words of all lengths, by evaluation. -/
namespace Mr
def F0 (k : Nat) : Face := ⟨0, List.replicate k [], []⟩
def chkO : Option (List Wrd) → Option (List Wrd) → Bool
  | some a, some b => decide (a = b) && (a.all fun w => okW w) && decide (a.length ≤ 340)
  | _, _ => false
theorem chkO_some : ∀ {x y : Option (List Wrd)}, chkO x y = true → ∃ L, x = some L ∧ y = some L ∧ (L.all fun w => okW w) = true ∧ L.length ≤ 340
  | some a, some b, h => by
    have h' : (decide (a = b) && (a.all fun w => okW w) && decide (a.length ≤ 340)) = true := h
    rw [Bool.and_eq_true, Bool.and_eq_true] at h'
    obtain ⟨⟨c1, c2⟩, c3⟩ := h'
    have c1' : a = b := of_decide_eq_true c1
    subst c1'
    exact ⟨a, rfl, rfl, c2, of_decide_eq_true c3⟩
  | some _, none, h => by cases h
  | none, _, h => by cases h
def chk (k most least : Nat) : Bool := chkO (m_words_up_to (F0 k) (most : Int) (least : Int)) (m_law_all (k : Int) (least : Int) (most : Int))
theorem chk_some {k most least : Nat} (h : chk k most least = true) : ∃ L, m_words_up_to (F0 k) (most : Int) (least : Int) = some L ∧ m_law_all (k : Int) (least : Int) (most : Int) = some L ∧ (L.all fun w => okW w) = true ∧ L.length ≤ 340 := by
  unfold chk at h
  exact chkO_some h
theorem chk12 : ∀ k ∈ [1, 2], ∀ most ∈ [0, 1, 2, 3, 4, 5, 6], ∀ least ∈ [1, 2, 3, 4, 5, 6, 7], chk k most least = true := by decide +kernel
theorem chk34 : ∀ k ∈ [3, 4], ∀ most ∈ [0, 1, 2, 3], ∀ least ∈ [1, 2, 3, 4, 5, 6, 7], chk k most least = true := by decide +kernel
theorem chk3 : ∀ least ∈ [1, 2, 3, 4, 5, 6, 7], chk 3 4 least = true := by decide +kernel
theorem chk4 : ∀ least ∈ [1, 2, 3, 4, 5, 6, 7], chk 4 4 least = true := by decide +kernel
end Mr

set_option linter.all false
set_option maxRecDepth 100000
set_option maxHeartbeats 1000000
namespace Mr
open PySem PySem.Spec
/-! ### what is drawn -/
theorem box_draw {b : List Int} (hb : BagOk b) : ∃ x b', m_law_box b 4 = some (ringB x, b') ∧ BxOk x ∧ BagOk b' := by
  obtain ⟨x1, b1, e1, p1, q1, B1⟩ := draw_ok hb (n := 4) (by decide) (by decide)
  obtain ⟨x2, b2, e2, p2, q2, B2⟩ := draw_ok B1 (n := 4) (by decide) (by decide)
  obtain ⟨x3, b3, e3, p3, q3, B3⟩ := draw_ok B2 (n := 4 - x1) (by omega) (by omega)
  obtain ⟨x4, b4, e4, p4, q4, B4⟩ := draw_ok B3 (n := 4 - x2) (by omega) (by omega)
  refine ⟨(x1, x2, x1 + 1 + x3, x2 + 1 + x4), b4, ?_, ⟨p1, ?_, ?_, p2, ?_, ?_⟩, B4⟩
  · unfold m_law_box
    exact bindOk e1 (bindOk e2 (bindOk e3 (bindOk e4 rfl)))
  all_goals dsimp only; omega
theorem outs_fol : ∀ (xs : List Int) (b : List Int) (acc : List (List Bx)), BagOk b → (∀ bs ∈ acc, LtOk bs) → acc.length + xs.length ≤ 100 → ∃ (b' : List Int) (bss : List (List Bx)), folM (m_law_outlines_b1 4) xs (b, acc.map fun bs => bs.map ringB) = some (b', bss.map fun bs => bs.map ringB) ∧ BagOk b' ∧ (∀ bs ∈ bss, LtOk bs) ∧ bss.length = acc.length + xs.length
  | [], b, acc, hb, ha, _ => ⟨b, acc, rfl, hb, ha, by simp⟩
  | x :: xs, b, acc, hb, ha, hz => by
    have hz' : acc.length + (xs.length + 1) ≤ 100 := hz
    obtain ⟨k1, b1, e1, o1, B1⟩ := box_draw hb
    obtain ⟨r, b2, e2, p2, q2, B2⟩ := draw_ok B1 (n := 2) (by decide) (by decide)
    have hR : ∃ (bs : List Bx) (b3 : List Int), (Option.bind (m_law_draw b1 (2 : Int)) fun (r4, bag_here8) =>
  if (decide (r4 = (1 : Int))) then (Option.bind (m_law_box bag_here8 4) fun (r5, bag_here9) =>
  Option.bind (appM ([ringB k1] : List (List (Int × Int))) r5) fun rings3 =>
  some (bag_here9, rings3))
  else (some (bag_here8, ([ringB k1] : List (List (Int × Int)))))) = some (b3, bs.map ringB) ∧ LtOk bs ∧ BagOk b3 := by
      by_cases h : r = 1
      · obtain ⟨k2, b3, e3, o3, B3⟩ := box_draw B2
        refine ⟨[k1, k2], b3, bindOk e2 ((if_pos (by simpa using h)).trans (bindOk e3 (bindOk (appM_ok (by simp)) rfl))), ⟨⟨by simp, by simp⟩, fun k hk => ?_⟩, B3⟩
        simp only [List.mem_cons, List.not_mem_nil, or_false] at hk
        rcases hk with e | e <;> rw [e] <;> assumption
      · refine ⟨[k1], b2, bindOk e2 (if_neg (by simpa using h)), ⟨⟨by simp, by simp⟩, fun k hk => ?_⟩, B2⟩
        rw [List.mem_singleton.mp hk]; exact o1
    obtain ⟨bs, b3, e3, L3, B3⟩ := hR
    obtain ⟨b', bss, e4, B4, L4, n4⟩ := outs_fol xs b3 (acc ++ [bs]) B3 (fun c hc => by
      rcases List.mem_append.mp hc with z | z
      · exact ha c z
      · rw [List.mem_singleton.mp z]; exact L3) (by simp; omega)
    refine ⟨b', bss, ?_, B4, L4, by rw [n4]; simp; omega⟩
    refine bindOk (a := (b3, (acc ++ [bs]).map fun bs => bs.map ringB)) ?_ e4
    unfold m_law_outlines_b1
    dsimp only
    refine bindOk e1 (bindOk e3 (bindOk (appM_ok (by simp; omega)) ?_))
    simp
theorem outs_draw {b : List Int} (hb : BagOk b) {n : Int} (hn : 1 ≤ n ∧ n ≤ 4) : ∃ (bss : List (List Bx)) (b' : List Int), m_law_outlines b n 4 = some (bss.map (fun bs => bs.map ringB), b') ∧ (∀ bs ∈ bss, LtOk bs) ∧ (bss.length : Int) = n ∧ BagOk b' := by
  obtain ⟨b', bss, e, B, L, l⟩ := outs_fol ((List.range n.toNat).map fun (i : Nat) => (i : Int)) b [] hb (fun _ h => nomatch h) (by simp; omega)
  refine ⟨bss, b', ?_, L, ?_, B⟩
  · unfold m_law_outlines
    exact bindOk (rngM_ok (by omega) (by omega)) (bindOk e rfl)
  · rw [l]; simp; omega
/-! ### a face's words: its letters alone count -/
theorem let_F0 {f : Face} {k : Nat} (h : f.inks.length = k) : m_Face_letters f = m_Face_letters (F0 k) := by
  unfold m_Face_letters F0
  simp only [List.length_replicate, h]
theorem words_F0 {f : Face} {k : Nat} (h : f.inks.length = k) : m_words_up_to f = m_words_up_to (F0 k) := by
  have e2 : m_words_up_to_c2 f = m_words_up_to_c2 (F0 k) := by
    funext acc x
    unfold m_words_up_to_c2
    rw [let_F0 h]
  have e1 : m_words_up_to_b1 f = m_words_up_to_b1 (F0 k) := by
    funext l s x
    unfold m_words_up_to_b1
    rw [e2]
  funext m l
  unfold m_words_up_to
  rw [e1]
/-- all words of those lengths -/
def Dom (k most : Nat) : Prop := (1 ≤ k ∧ k ≤ 4) ∧ most ≤ 6 ∧ (2 < k → most ≤ 4)
theorem chk_of {k most least : Nat} (h : Dom k most) (hl : 1 ≤ least ∧ least ≤ 7) : chk k most least = true := by
  obtain ⟨⟨h1, h2⟩, h3, h4⟩ := h
  have hll : least ∈ [1, 2, 3, 4, 5, 6, 7] := by
    have : least = 1 ∨ least = 2 ∨ least = 3 ∨ least = 4 ∨ least = 5 ∨ least = 6 ∨ least = 7 := by omega
    simpa using this
  by_cases hk : k ≤ 2
  · refine chk12 k ?_ most ?_ least hll
    · have : k = 1 ∨ k = 2 := by omega
      simpa using this
    · have : most = 0 ∨ most = 1 ∨ most = 2 ∨ most = 3 ∨ most = 4 ∨ most = 5 ∨ most = 6 := by omega
      simpa using this
  · have hm := h4 (by omega)
    by_cases hm4 : most = 4
    · subst hm4
      have : k = 3 ∨ k = 4 := by omega
      rcases this with e | e <;> subst e
      · exact chk3 least hll
      · exact chk4 least hll
    · refine chk34 k ?_ most ?_ least hll
      · have : k = 3 ∨ k = 4 := by omega
        simpa using this
      · have : most = 0 ∨ most = 1 ∨ most = 2 ∨ most = 3 := by omega
        simpa using this
structure Wds (f : Face) (k most least : Nat) (L : List Wrd) : Prop where
  up : m_words_up_to f (most : Int) (least : Int) = some L
  all : m_law_all (k : Int) (least : Int) (most : Int) = some L
  ok : (L.all fun w => okW w) = true
  len : L.length ≤ 340
theorem wds {f : Face} {k most least : Nat} (hf : f.inks.length = k) (h : Dom k most) (hl : 1 ≤ least ∧ least ≤ 7) : ∃ L, Wds f k most least L := by
  obtain ⟨L, h1, h2, h3, h4⟩ := chk_some (chk_of h hl)
  exact ⟨L, by rw [words_F0 hf]; exact h1, h2, h3, h4⟩
/-! ### parts -/
theorem cut_head {α : Type} (xs : List α) (n : Nat) : cutM xs none (some (n : Int)) = xs.take n := by
  unfold cutM slIx
  have h : ¬ ((n : Int) < 0) := by omega
  simp only [h, if_false]
  show ((xs.drop 0).take (min (n : Int).toNat xs.length - 0)) = xs.take n
  rw [List.drop_zero, Nat.sub_zero, Int.toNat_natCast]
  rw [Nat.min_def]
  split
  · rfl
  · rw [List.take_of_length_le (Nat.le_refl _), List.take_of_length_le (by omega)]
theorem beg_fol {n : Nat} : ∀ (L acc : List Wrd), acc.length + L.length ≤ 1000 → forL (m_law_begin_b1 (n : Int)) L acc = some (.nx (acc ++ L.take (n - acc.length)))
  | [], acc, _ => by simp [forL]
  | x :: L, acc, h => by
    have h' : acc.length + (L.length + 1) ≤ 1000 := h
    rw [forL_cons]
    by_cases c : n ≤ acc.length
    · refine bindOk (a := Bf.bk acc) ?_ ?_
      · unfold m_law_begin_b1
        exact if_pos (by simpa using c)
      · show some (Fl.nx acc) = _
        rw [Nat.sub_eq_zero_of_le c]; simp
    · refine bindOk (a := Bf.go (acc ++ [x])) ?_ ?_
      · unfold m_law_begin_b1
        exact (if_neg (by simpa using c)).trans (bindOk (appM_ok (by omega)) rfl)
      · show forL (m_law_begin_b1 (n : Int)) L (acc ++ [x]) = _
        rw [beg_fol L (acc ++ [x]) (by simp; omega)]
        have e : n - acc.length = (n - (acc.length + 1)) + 1 := by omega
        rw [e, List.take_succ_cons, List.length_append, List.append_assoc]
        rfl
theorem begin_ok {f : Face} {k most least n : Nat} {L : List Wrd} (W : Wds f k most least L) : m_law_begin f (most : Int) (least : Int) (n : Int) = some (L.take n) := by
  have := W.len
  unfold m_law_begin
  refine bindOk W.up (bindOk (beg_fol L [] (by simp; omega)) ?_)
  simp
theorem ins_fol {g : Face} {R : List Wrd} (hR : m_words_up_to g (2 : Int) (1 : Int) = some R) : ∀ (L : List Wrd) (acc : List (Wrd × List Wrd)), acc.length + L.length ≤ 1000 → forL (m_law_stands_b1 g) L acc = some (.nx (acc ++ (L.take (4 - acc.length)).map fun x => (x, R)))
  | [], acc, _ => by simp [forL]
  | x :: L, acc, h => by
    have h' : acc.length + (L.length + 1) ≤ 1000 := h
    rw [forL_cons]
    by_cases c : 4 ≤ acc.length
    · refine bindOk (a := Bf.bk acc) ?_ ?_
      · unfold m_law_stands_b1
        exact if_pos (decide_eq_true (by omega))
      · show some (Fl.nx acc) = _
        rw [Nat.sub_eq_zero_of_le c]; simp
    · refine bindOk (a := Bf.go (acc ++ [(x, R)])) ?_ ?_
      · unfold m_law_stands_b1
        exact (if_neg (fun z => c (by have := of_decide_eq_true z; omega))).trans (bindOk hR (bindOk (appM_ok (by omega)) rfl))
      · show forL (m_law_stands_b1 g) L (acc ++ [(x, R)]) = _
        rw [ins_fol hR L (acc ++ [(x, R)]) (by simp; omega)]
        have e : 4 - acc.length = (4 - (acc.length + 1)) + 1 := by omega
        rw [e, List.take_succ_cons, List.length_append, List.append_assoc, List.map_cons]
        rfl
theorem take_ok {L : List Wrd} {n : Nat} (h : (L.all fun w => okW w) = true) : ((L.take n).all fun w => okW w) = true :=
  List.all_eq_true.mpr fun x hx => List.all_eq_true.mp h x (List.mem_of_mem_take hx)
theorem ifM_ok {α : Type} {b : Bool} {x : α} (h : b = true) : ifM b x = some x := if_pos h
theorem stands_ok {f g : Face} {a b most least : Nat} (hf : f.inks.length = a) (hg : g.inks.length = b) (ha : Dom a most) (hb : Dom b most) (hl : 1 ≤ least ∧ least ≤ 7) : m_law_stands f g (a : Int) (b : Int) (most : Int) (least : Int) = some true := by
  obtain ⟨L, W⟩ := wds hf ha hl
  obtain ⟨M, V⟩ := wds hg hb hl
  obtain ⟨R, U⟩ := wds (most := 2) (least := 1) hg ⟨hb.1, by decide, fun _ => by decide⟩ (by decide)
  obtain ⟨N, T⟩ := wds (least := 1) hg hb (by decide)
  have lL := W.len
  unfold m_law_stands
  have hpair : (((L.take 4).map fun x => (x, R)).all fun z => ((okW z.1) && (z.2.all fun z => (okW z)))) = true := by
    refine List.all_eq_true.mpr fun z hz => ?_
    obtain ⟨x, hx, rfl⟩ := List.mem_map.mp hz
    rw [Bool.and_eq_true]
    exact ⟨List.all_eq_true.mp (take_ok (n := 4) W.ok) x hx, U.ok⟩
  refine bindOk W.all (bindOk V.all (bindOk W.up (bindOk (ifM_ok (by rw [W.ok]; rfl)) ?_)))
  rw [if_neg (by simp)]
  refine bindOk W.up (bindOk (ins_fol (R := R) U.up L [] (by simp; omega)) ?_)
  have e4 : cutM L none (some (4 : Int)) = L.take 4 := cut_head L 4
  have hc2 : folM (m_law_stands_c2 (b : Int)) (L.take 4) ([] : List (Wrd × List Wrd)) = some ((L.take 4).map fun x => (x, R)) := by
    have := map_fol (f := m_law_stands_c2 (b : Int)) (g := fun x => (x, R)) (L.take 4) [] (fun acc x _ hz => by
      unfold m_law_stands_c2
      exact bindOk U.all (bindOk (appM_ok (by omega)) rfl)) (by simp; omega)
    simpa using this
  dsimp only
  rw [e4]
  refine bindOk hc2 ?_
  rw [List.nil_append]
  refine bindOk (ifM_ok (by rw [show (4 - ([] : List (Wrd × List Wrd)).length) = 4 from rfl, hpair]; rfl)) ?_
  rw [if_neg (by simp)]
  have eh : ((L.length : Int) / (2 : Int)) = ((L.length / 2 : Nat) : Int) := by omega
  have e5 : cutM L none (some ((L.length / 2 : Nat) : Int)) = L.take (L.length / 2) := cut_head L _
  have e6 : cutM M none (some (3 : Int)) = M.take 3 := cut_head M 3
  have b3 : m_law_begin g (most : Int) (least : Int) (3 : Int) = some (M.take 3) := begin_ok (n := 3) V
  rw [eh, e5, e6]
  refine bindOk (a := false) (bindOk (begin_ok W) (bindOk (ifM_ok (by rw [take_ok W.ok]; rfl)) ?_)) ?_
  · rw [if_neg (by simp)]
    refine bindOk b3 (bindOk (ifM_ok (by rw [take_ok V.ok]; rfl)) ?_)
    simp
  · rw [if_neg (by decide)]
    refine bindOk T.up (bindOk T.all (bindOk (ifM_ok (by rw [T.ok]; rfl)) ?_))
    simp
/-! ### the law -/
theorem turn_all {ns : List Int} {j : Nat} : m_law_b1 ns () (j : Int) = some (.go ()) := by
  unfold m_law_b1
  obtain ⟨b0, e0, B0⟩ := bag_ok (ns := ns) (j := j)
  obtain ⟨r2, b1, e1, p1, q1, B1⟩ := draw_ok B0 (n := 4) (by decide) (by decide)
  obtain ⟨r4, b2, e2, p2, q2, B2⟩ := draw_ok B1 (n := 4) (by decide) (by decide)
  obtain ⟨bss, b3, e3, L3, l3, B3⟩ := outs_draw B2 (n := 1 + r2) (by omega)
  obtain ⟨f, e4, o4⟩ := face_ok (bss := bss) (p := 1) L3 (by omega) (by omega)
  obtain ⟨bst, b5, e5, L5, l5, B5⟩ := outs_draw B3 (n := 1 + r4) (by omega)
  obtain ⟨g, e6, o6⟩ := face_ok (bss := bst) (p := 0) L5 (by omega) (by omega)
  obtain ⟨a, ha⟩ : ∃ a : Nat, (1 : Int) + r2 = (a : Int) := ⟨bss.length, by omega⟩
  obtain ⟨b, hb⟩ : ∃ b : Nat, (1 : Int) + r4 = (b : Int) := ⟨bst.length, by omega⟩
  have hf : f.inks.length = a := by rw [o4.ink, List.length_map]; omega
  have hg : g.inks.length = b := by rw [o6.ink, List.length_map]; omega
  refine bindOk e0 (bindOk e1 (bindOk e2 (bindOk e3 (bindOk e4 (bindOk e5 (bindOk e6 ?_))))))
  rw [ha, hb]
  have hM : ∃ (most : Nat) (b7 : List Int), (if (decide ((if (b : Int) > (a : Int) then (b : Int) else (a : Int)) > (2 : Int))) then (Option.bind (m_law_one b5 ([(1 : Int), (2 : Int), (3 : Int), (3 : Int), (4 : Int), (0 : Int)] : List Int)) fun (r12, r13) =>
  some (r12, r13)) else (Option.bind (m_law_draw b5 (7 : Int)) fun (r14, r15) =>
  some (r14, r15))) = some ((most : Int), b7) ∧ BagOk b7 ∧ Dom a most ∧ Dom b most := by
    by_cases c : (if (b : Int) > (a : Int) then (b : Int) else (a : Int)) > (2 : Int)
    · obtain ⟨r, b6, e7, p7, q7, B7⟩ := draw_ok B5 (n := 6) (by decide) (by decide)
      have hr : ∃ m : Nat, getM ([(1 : Int), (2 : Int), (3 : Int), (3 : Int), (4 : Int), (0 : Int)] : List Int) r = some (m : Int) ∧ m ≤ 4 := by
        have : r = 0 ∨ r = 1 ∨ r = 2 ∨ r = 3 ∨ r = 4 ∨ r = 5 := by omega
        rcases this with e | e | e | e | e | e <;> subst e
        · exact ⟨1, rfl, by decide⟩
        · exact ⟨2, rfl, by decide⟩
        · exact ⟨3, rfl, by decide⟩
        · exact ⟨3, rfl, by decide⟩
        · exact ⟨4, rfl, by decide⟩
        · exact ⟨0, rfl, by decide⟩
      obtain ⟨m, hm, hm4⟩ := hr
      refine ⟨m, b6, (if_pos (decide_eq_true c)).trans (bindOk (a := ((m : Int), b6)) ?_ rfl), B7, ⟨by omega, by omega, fun _ => hm4⟩, ⟨by omega, by omega, fun _ => hm4⟩⟩
      unfold m_law_one
      exact bindOk e7 (bindOk hm rfl)
    · obtain ⟨r, b6, e7, p7, q7, B7⟩ := draw_ok B5 (n := 7) (by decide) (by decide)
      obtain ⟨m, rfl⟩ : ∃ m : Nat, r = (m : Int) := ⟨r.toNat, by omega⟩
      have c2 : a ≤ 2 ∧ b ≤ 2 := by
        split at c <;> omega
      refine ⟨m, b6, (if_neg (fun z => c (of_decide_eq_true z))).trans (bindOk e7 rfl), B7, ⟨by omega, by omega, fun _ => by omega⟩, ⟨by omega, by omega, fun _ => by omega⟩⟩
  obtain ⟨most, b7, e7, B7, Da, Db⟩ := hM
  refine bindOk e7 ?_
  dsimp only
  obtain ⟨r22, b8, e8, p8, q8, B8⟩ := draw_ok B7 (n := 7) (by decide) (by decide)
  refine bindOk e8 ?_
  dsimp only
  obtain ⟨l1, hl1⟩ : ∃ l : Nat, (1 : Int) + r22 = (l : Int) := ⟨(1 + r22).toNat, by omega⟩
  rw [hl1]
  refine bindOk (stands_ok hf hg Da Db (by omega)) ?_
  rw [if_neg (by decide)]
  have hm6 := Da.2.1
  obtain ⟨r26, b9, e9, p9, q9, B9⟩ := draw_ok B8 (n := (most : Int) + 1) (by omega) (by omega)
  refine bindOk e9 ?_
  dsimp only
  obtain ⟨l2, hl2⟩ : ∃ l : Nat, (1 : Int) + r26 = (l : Int) := ⟨(1 + r26).toNat, by omega⟩
  rw [hl2]
  refine bindOk (stands_ok hg hf Db Da (by omega)) ?_
  rw [if_neg (by decide)]
theorem law_plain (ns : List Int) (h : ns.length ≤ 63) : m_law ns = some true := by
  unfold m_law
  obtain ⟨n, hn⟩ : ∃ n : Int, (if (if (ns.length : Int) < (2 : Int) then (ns.length : Int) else (2 : Int)) > (1 : Int) then (if (ns.length : Int) < (2 : Int) then (ns.length : Int) else (2 : Int)) else (1 : Int)) = n := ⟨_, rfl⟩
  rw [hn]
  have hn0 : 0 ≤ n ∧ n ≤ 100 := by
    rw [← hn]
    constructor <;> (repeat' split) <;> omega
  refine bindOk (rngM_ok hn0.1 (by omega)) ?_
  obtain ⟨s, hs, _⟩ := forL_inv (f := m_law_b1 ns) (fun _ => True) ((List.range n.toNat).map fun (i : Nat) => (i : Int)) () True.intro (fun x hx s _ => by
    obtain ⟨j, _, rfl⟩ := List.mem_map.mp hx
    exact ⟨(), turn_all, True.intro⟩)
  exact bindOk hs rfl
end Mr

set_option Elab.async false
set_option linter.all false
set_option maxRecDepth 100000
set_option maxHeartbeats 4000000
set_option synthInstance.maxSize 4000
set_option synthInstance.maxHeartbeats 400000
namespace Mr
open PySem PySem.Spec PyProof.Rows L2
def mkDK (n : Str) (i : Nat) (kws : List (Str × He.Dv)) : He5.DefA := ⟨fun K => He.fAd K (n, none), n, n, defArgs (top i), defBody (top i), defScope (top i), [], kws⟩
def mkD (n : Str) (i : Nat) : He5.DefA := ⟨fun K => He.fAd K (n, none), n, n, defArgs (top i), defBody (top i), defScope (top i), [], []⟩
def fn : List He5.DefA := [mkD "each_side" 18, ⟨fun K => gAd K "Face" "letters", "letters", "Face.letters", defArgs s_Face_letters, defBody s_Face_letters, defScope s_Face_letters, [], []⟩, mkDK "words_up_to" 8 [("least", .int 1)], mkD "is_number" 14, mkD "is_corner" 15, mkD "is_ring" 16, mkD "outline_of" 17, mkD "count_of" 19, mkD "winding" 20, mkD "ink_of" 22, mkD "leftmost" 23, mkD "rightmost" 24, mkD "step_of" 25, mkD "blanks" 26, mkD "bad_count" 30, mkD "row_that_bars" 31, ⟨fun K => He.fAd K ("Face", some "gap_and_bar"), "gap_and_bar", "Face.gap_and_bar", defArgs s_Face_gap_and_bar, defBody s_Face_gap_and_bar, defScope s_Face_gap_and_bar, [], []⟩, ⟨fun K => He.ma K (He.ga K "Face") "__init__", "__init__", "Face.__init__", defArgs s_Face___init__, defBody s_Face___init__, defScope s_Face___init__, [.int 1], []⟩, mkD "_law_bag" 34, mkD "_law_draw" 35, mkD "_law_one" 36, mkD "_law_box" 37, mkD "_law_outlines" 38, mkD "_law_word_of" 39, mkD "_law_all" 40, mkD "_law_begin" 41, mkD "_law_stands" 42, mkD "law" 43]
def fa : List He.Fa := [.glo "each_side", .glo "words_up_to", .glo "is_number", .glo "is_corner", .glo "is_ring", .glo "outline_of", .glo "count_of", .glo "winding", .glo "ink_of", .glo "leftmost", .glo "rightmost", .glo "step_of", .glo "blanks", .glo "bad_count", .glo "row_that_bars", .meth "Face" "gap_and_bar", .mkr "Face", .glo "_law_bag", .glo "_law_draw", .glo "_law_one", .glo "_law_box", .glo "_law_outlines", .glo "_law_word_of", .glo "_law_all", .glo "_law_begin", .glo "_law_stands", .glo "law", .free "abs", .free "bool", .free "enumerate", .free "int", .free "isinstance", .free "len", .free "list", .free "max", .free "min", .free "range", .free "tuple", .free "zip", .int "GRID" 4, .int "LEAST_CORNERS" 3, .str "LETTERS" "abcd", .int "MOST_APART" 2, .int "MOST_CORNERS" 8, .int "MOST_RINGS" 3, .cls "Face", .glo "Face", .noat "Face" "apart", .noat "Face" "gaps_and_bars", .noat "Face" "inks"]
def fx : List FrT := [(propB "Face" "letters")]
abbrev Rw : PySem.W.OpenRow := PySem.W.OpenLaw.row PySem.Challenge.rw_pressalike_k06_words_in_their_order
abbrev hk : PySem.W.Hook := hookE 5 fa fn fx
def ob (s : PySem.W.SharedT) : He.AlD := obsEG 5 fa fn fx (HandSHeadRun.getT s)
theorem ob_eq (s : PySem.W.SharedT) : ob s = hk.obs s.abs := obsEG_eq (HandSHeadRun.getT_eq s)
theorem run (w : World) : HandSHeadRun.RunEq Rw (PySem.W.view Rw.prog [43]) hk ob 9000 ((("_wall" : PySem.Str) :: ("PressError" : PySem.Str) :: ("BadOutline" : PySem.Str) :: ("NoInk" : PySem.Str) :: ("BadFace" : PySem.Str) :: ("BadWord" : PySem.Str) :: ("words_up_to" : PySem.Str) :: ("GRID" : PySem.Str) :: ("MOST_RINGS" : PySem.Str) :: ("LEAST_CORNERS" : PySem.Str) :: ("MOST_CORNERS" : PySem.Str) :: ("is_number" : PySem.Str) :: ("is_corner" : PySem.Str) :: ("is_ring" : PySem.Str) :: ("outline_of" : PySem.Str) :: ("each_side" : PySem.Str) :: ("count_of" : PySem.Str) :: ("winding" : PySem.Str) :: ("ink_of" : PySem.Str) :: ("leftmost" : PySem.Str) :: ("rightmost" : PySem.Str) :: ("step_of" : PySem.Str) :: ("blanks" : PySem.Str) :: ("LETTERS" : PySem.Str) :: ("MOST_APART" : PySem.Str) :: ("bad_count" : PySem.Str) :: ("row_that_bars" : PySem.Str) :: ("Face" : PySem.Str) :: ("_law_bag" : PySem.Str) :: ("_law_draw" : PySem.Str) :: ("_law_one" : PySem.Str) :: ("_law_box" : PySem.Str) :: ("_law_outlines" : PySem.Str) :: ("_law_word_of" : PySem.Str) :: ("_law_all" : PySem.Str) :: ("_law_begin" : PySem.Str) :: ("_law_stands" : PySem.Str) :: [])) w := by
  intro os
  kernel_rfl
theorem facts {P : Program} {w : World} {K : PySem.W.Frag} {h : Heap} {mg : Str → Option Value} {f : Addr} (X : K.In h) (G : h.Ns mainGlobals mg) (hfa : mg ("law" : Str) = some (.ref f)) (c : SaysE fa fn fx K) :
    ∃ fd : FuncData, (∀ (s : Shared) (v : Value), BindsTo s fd ⟨[v], []⟩ [("_law_script", v)]) ∧ ∀ base : Heap, K.In base → base.Ns mainGlobals mg → FnOk P w K mg base CX0 9 f fd ["_law_script"] (sp_law K w) := by
  obtain ⟨fd_each_side, F_each_side⟩ := c.def_ 0 rfl
  obtain ⟨fd_Face_letters, F_Face_letters⟩ := c.def_ 1 rfl
  obtain ⟨fd_words_up_to, F_words_up_to⟩ := c.def_ 2 rfl
  obtain ⟨fd_is_number, F_is_number⟩ := c.def_ 3 rfl
  obtain ⟨fd_is_corner, F_is_corner⟩ := c.def_ 4 rfl
  obtain ⟨fd_is_ring, F_is_ring⟩ := c.def_ 5 rfl
  obtain ⟨fd_outline_of, F_outline_of⟩ := c.def_ 6 rfl
  obtain ⟨fd_count_of, F_count_of⟩ := c.def_ 7 rfl
  obtain ⟨fd_winding, F_winding⟩ := c.def_ 8 rfl
  obtain ⟨fd_ink_of, F_ink_of⟩ := c.def_ 9 rfl
  obtain ⟨fd_leftmost, F_leftmost⟩ := c.def_ 10 rfl
  obtain ⟨fd_rightmost, F_rightmost⟩ := c.def_ 11 rfl
  obtain ⟨fd_step_of, F_step_of⟩ := c.def_ 12 rfl
  obtain ⟨fd_blanks, F_blanks⟩ := c.def_ 13 rfl
  obtain ⟨fd_bad_count, F_bad_count⟩ := c.def_ 14 rfl
  obtain ⟨fd_row_that_bars, F_row_that_bars⟩ := c.def_ 15 rfl
  obtain ⟨fd_Face_gap_and_bar, F_Face_gap_and_bar⟩ := c.def_ 16 rfl
  obtain ⟨fd_Face___init__, F_Face___init__⟩ := c.def_ 17 rfl
  obtain ⟨fd_law_bag, F_law_bag⟩ := c.def_ 18 rfl
  obtain ⟨fd_law_draw, F_law_draw⟩ := c.def_ 19 rfl
  obtain ⟨fd_law_one, F_law_one⟩ := c.def_ 20 rfl
  obtain ⟨fd_law_box, F_law_box⟩ := c.def_ 21 rfl
  obtain ⟨fd_law_outlines, F_law_outlines⟩ := c.def_ 22 rfl
  obtain ⟨fd_law_word_of, F_law_word_of⟩ := c.def_ 23 rfl
  obtain ⟨fd_law_all, F_law_all⟩ := c.def_ 24 rfl
  obtain ⟨fd_law_begin, F_law_begin⟩ := c.def_ 25 rfl
  obtain ⟨fd_law_stands, F_law_stands⟩ := c.def_ 26 rfl
  obtain ⟨fd_law, F_law⟩ := c.def_ 27 rfl
  let T : Tx K mg := {
    fd_each_side := fd_each_side
    F_each_side := F_each_side
    g_each_side := He.glo_ok X G (c.fact 0 rfl)
    b_each_side := F_each_side.bindsN fun _ _ _ _ _ _ us hl => (match us, hl with | [_], _ => rfl)
    fd_Face_letters := fd_Face_letters
    F_Face_letters := F_Face_letters
    b_Face_letters := F_Face_letters.bindsN fun _ _ _ _ _ _ us hl => (match us, hl with | [_], _ => rfl)
    p_Face_letters := propB_ok (c.test 0 rfl)
    fd_words_up_to := fd_words_up_to
    F_words_up_to := F_words_up_to
    g_words_up_to := He.glo_ok X G (c.fact 1 rfl)
    fd_is_number := fd_is_number
    F_is_number := F_is_number
    g_is_number := He.glo_ok X G (c.fact 2 rfl)
    b_is_number := F_is_number.bindsN fun _ _ _ _ _ _ us hl => (match us, hl with | [_], _ => rfl)
    fd_is_corner := fd_is_corner
    F_is_corner := F_is_corner
    g_is_corner := He.glo_ok X G (c.fact 3 rfl)
    b_is_corner := F_is_corner.bindsN fun _ _ _ _ _ _ us hl => (match us, hl with | [_], _ => rfl)
    fd_is_ring := fd_is_ring
    F_is_ring := F_is_ring
    g_is_ring := He.glo_ok X G (c.fact 4 rfl)
    b_is_ring := F_is_ring.bindsN fun _ _ _ _ _ _ us hl => (match us, hl with | [_], _ => rfl)
    fd_outline_of := fd_outline_of
    F_outline_of := F_outline_of
    g_outline_of := He.glo_ok X G (c.fact 5 rfl)
    b_outline_of := F_outline_of.bindsN fun _ _ _ _ _ _ us hl => (match us, hl with | [_, _], _ => rfl)
    fd_count_of := fd_count_of
    F_count_of := F_count_of
    g_count_of := He.glo_ok X G (c.fact 6 rfl)
    b_count_of := F_count_of.bindsN fun _ _ _ _ _ _ us hl => (match us, hl with | [_, _, _, _], _ => rfl)
    fd_winding := fd_winding
    F_winding := F_winding
    g_winding := He.glo_ok X G (c.fact 7 rfl)
    b_winding := F_winding.bindsN fun _ _ _ _ _ _ us hl => (match us, hl with | [_, _, _], _ => rfl)
    fd_ink_of := fd_ink_of
    F_ink_of := F_ink_of
    g_ink_of := He.glo_ok X G (c.fact 8 rfl)
    b_ink_of := F_ink_of.bindsN fun _ _ _ _ _ _ us hl => (match us, hl with | [_], _ => rfl)
    fd_leftmost := fd_leftmost
    F_leftmost := F_leftmost
    g_leftmost := He.glo_ok X G (c.fact 9 rfl)
    b_leftmost := F_leftmost.bindsN fun _ _ _ _ _ _ us hl => (match us, hl with | [_, _], _ => rfl)
    fd_rightmost := fd_rightmost
    F_rightmost := F_rightmost
    g_rightmost := He.glo_ok X G (c.fact 10 rfl)
    b_rightmost := F_rightmost.bindsN fun _ _ _ _ _ _ us hl => (match us, hl with | [_, _], _ => rfl)
    fd_step_of := fd_step_of
    F_step_of := F_step_of
    g_step_of := He.glo_ok X G (c.fact 11 rfl)
    b_step_of := F_step_of.bindsN fun _ _ _ _ _ _ us hl => (match us, hl with | [_], _ => rfl)
    fd_blanks := fd_blanks
    F_blanks := F_blanks
    g_blanks := He.glo_ok X G (c.fact 12 rfl)
    b_blanks := F_blanks.bindsN fun _ _ _ _ _ _ us hl => (match us, hl with | [_, _, _, _], _ => rfl)
    fd_bad_count := fd_bad_count
    F_bad_count := F_bad_count
    g_bad_count := He.glo_ok X G (c.fact 13 rfl)
    b_bad_count := F_bad_count.bindsN fun _ _ _ _ _ _ us hl => (match us, hl with | [_, _], _ => rfl)
    fd_row_that_bars := fd_row_that_bars
    F_row_that_bars := F_row_that_bars
    g_row_that_bars := He.glo_ok X G (c.fact 14 rfl)
    b_row_that_bars := F_row_that_bars.bindsN fun _ _ _ _ _ _ us hl => (match us, hl with | [_, _, _, _], _ => rfl)
    fd_Face_gap_and_bar := fd_Face_gap_and_bar
    F_Face_gap_and_bar := F_Face_gap_and_bar
    b_Face_gap_and_bar := F_Face_gap_and_bar.bindsN fun _ _ _ _ _ _ us hl => (match us, hl with | [_, _, _], _ => rfl)
    m_Face_gap_and_bar := He.meth_ok (c.fact 15 rfl)
    fd_Face___init__ := fd_Face___init__
    F_Face___init__ := F_Face___init__
    mk_Face := He.mkr_ok (c.fact 16 rfl)
    fd_law_bag := fd_law_bag
    F_law_bag := F_law_bag
    g_law_bag := He.glo_ok X G (c.fact 17 rfl)
    b_law_bag := F_law_bag.bindsN fun _ _ _ _ _ _ us hl => (match us, hl with | [_, _], _ => rfl)
    fd_law_draw := fd_law_draw
    F_law_draw := F_law_draw
    g_law_draw := He.glo_ok X G (c.fact 18 rfl)
    b_law_draw := F_law_draw.bindsN fun _ _ _ _ _ _ us hl => (match us, hl with | [_, _], _ => rfl)
    fd_law_one := fd_law_one
    F_law_one := F_law_one
    g_law_one := He.glo_ok X G (c.fact 19 rfl)
    b_law_one := F_law_one.bindsN fun _ _ _ _ _ _ us hl => (match us, hl with | [_, _], _ => rfl)
    fd_law_box := fd_law_box
    F_law_box := F_law_box
    g_law_box := He.glo_ok X G (c.fact 20 rfl)
    b_law_box := F_law_box.bindsN fun _ _ _ _ _ _ us hl => (match us, hl with | [_, _], _ => rfl)
    fd_law_outlines := fd_law_outlines
    F_law_outlines := F_law_outlines
    g_law_outlines := He.glo_ok X G (c.fact 21 rfl)
    b_law_outlines := F_law_outlines.bindsN fun _ _ _ _ _ _ us hl => (match us, hl with | [_, _, _], _ => rfl)
    fd_law_word_of := fd_law_word_of
    F_law_word_of := F_law_word_of
    g_law_word_of := He.glo_ok X G (c.fact 22 rfl)
    b_law_word_of := F_law_word_of.bindsN fun _ _ _ _ _ _ us hl => (match us, hl with | [_, _, _], _ => rfl)
    fd_law_all := fd_law_all
    F_law_all := F_law_all
    g_law_all := He.glo_ok X G (c.fact 23 rfl)
    b_law_all := F_law_all.bindsN fun _ _ _ _ _ _ us hl => (match us, hl with | [_, _, _], _ => rfl)
    fd_law_begin := fd_law_begin
    F_law_begin := F_law_begin
    g_law_begin := He.glo_ok X G (c.fact 24 rfl)
    b_law_begin := F_law_begin.bindsN fun _ _ _ _ _ _ us hl => (match us, hl with | [_, _, _, _], _ => rfl)
    fd_law_stands := fd_law_stands
    F_law_stands := F_law_stands
    g_law_stands := He.glo_ok X G (c.fact 25 rfl)
    b_law_stands := F_law_stands.bindsN fun _ _ _ _ _ _ us hl => (match us, hl with | [_, _, _, _, _, _], _ => rfl)
    fd_law := fd_law
    F_law := F_law
    g_law := He.glo_ok X G (c.fact 26 rfl)
    b_law := F_law.bindsN fun _ _ _ _ _ _ us hl => (match us, hl with | [_], _ => rfl)
    z_abs := He.free_ok X G (c.fact 27 rfl)
    z_bool := He.free_ok X G (c.fact 28 rfl)
    z_enumerate := He.free_ok X G (c.fact 29 rfl)
    z_int := He.free_ok X G (c.fact 30 rfl)
    z_isinstance := He.free_ok X G (c.fact 31 rfl)
    z_len := He.free_ok X G (c.fact 32 rfl)
    z_list := He.free_ok X G (c.fact 33 rfl)
    z_max := He.free_ok X G (c.fact 34 rfl)
    z_min := He.free_ok X G (c.fact 35 rfl)
    z_range := He.free_ok X G (c.fact 36 rfl)
    z_tuple := He.free_ok X G (c.fact 37 rfl)
    z_zip := He.free_ok X G (c.fact 38 rfl)
    c_GRID := He.int_ok X G (c.fact 39 rfl)
    c_LEAST_CORNERS := He.int_ok X G (c.fact 40 rfl)
    c_LETTERS := (by rw [show e_T ([97, 98, 99, 100] : Wrd) = Str.ofString "abcd" from by decide +kernel]; exact He.str_ok X G (c.fact 41 rfl))
    c_MOST_APART := He.int_ok X G (c.fact 42 rfl)
    c_MOST_CORNERS := He.int_ok X G (c.fact 43 rfl)
    c_MOST_RINGS := He.int_ok X G (c.fact 44 rfl)
    cl_Face := He.cls_ok (c.fact 45 rfl)
    gc_Face := He.glo_ok X G (c.fact 46 rfl)
    n_Face_apart := He.noat_ok (c.fact 47 rfl)
    n_Face_gaps_and_bars := He.noat_ok (c.fact 48 rfl)
    n_Face_inks := He.noat_ok (c.fact 49 rfl) }
  have e := hfa.symm.trans T.g_law
  cases e
  have b := FunD.bindsA (ps := ["_law_script"]) F_law fun _ _ _ _ _ _ us hl => match us, hl with | [_], _ => rfl
  exact ⟨fd_law, fun s v => b s [v] rfl, fun base _ _ => ok_law T⟩
end Mr
open PySem PySem.W PySem.Calls PyProof.Rows
theorem PySem.Challenge.cw_pressalike_k06_words_in_their_order_holds : PySem.Challenge.rw_pressalike_k06_words_in_their_order.Holds := by
  w_on; o_law
  refine HandSHeadRun.head_any (r := OpenLaw.row PySem.Challenge.rw_pressalike_k06_words_in_their_order) (q := view (OpenLaw.row PySem.Challenge.rw_pressalike_k06_words_in_their_order).prog [43]) (H := Mr.hk) (ob := Mr.ob) (M := 9000) (loose := ((("_wall" : PySem.Str) :: ("PressError" : PySem.Str) :: ("BadOutline" : PySem.Str) :: ("NoInk" : PySem.Str) :: ("BadFace" : PySem.Str) :: ("BadWord" : PySem.Str) :: ("words_up_to" : PySem.Str) :: ("GRID" : PySem.Str) :: ("MOST_RINGS" : PySem.Str) :: ("LEAST_CORNERS" : PySem.Str) :: ("MOST_CORNERS" : PySem.Str) :: ("is_number" : PySem.Str) :: ("is_corner" : PySem.Str) :: ("is_ring" : PySem.Str) :: ("outline_of" : PySem.Str) :: ("each_side" : PySem.Str) :: ("count_of" : PySem.Str) :: ("winding" : PySem.Str) :: ("ink_of" : PySem.Str) :: ("leftmost" : PySem.Str) :: ("rightmost" : PySem.Str) :: ("step_of" : PySem.Str) :: ("blanks" : PySem.Str) :: ("LETTERS" : PySem.Str) :: ("MOST_APART" : PySem.Str) :: ("bad_count" : PySem.Str) :: ("row_that_bars" : PySem.Str) :: ("Face" : PySem.Str) :: ("_law_bag" : PySem.Str) :: ("_law_draw" : PySem.Str) :: ("_law_one" : PySem.Str) :: ("_law_box" : PySem.Str) :: ("_law_outlines" : PySem.Str) :: ("_law_word_of" : PySem.Str) :: ("_law_all" : PySem.Str) :: ("_law_begin" : PySem.Str) :: ("_law_stands" : PySem.Str) :: []))) (d := HandSHeadRun.topDef (OpenLaw.row PySem.Challenge.rw_pressalike_k06_words_in_their_order).prog 43) (kwd := []) Mr.ob_eq
    (by kernel_rfl) (fun s => by kernel_rfl) Mr.run (by kernel_rfl) (by kernel_rfl) (by kernel_rfl) (by rfl) (by first | assumption | decide +kernel) (by decide +kernel) ⟨rfl, rfl, rfl, rfl, rfl, by decide +kernel⟩ ?hw ?hc
  case hw => w_witness2
  case hc =>
    refine L2.walk_ofE (l := PySem.Challenge.rw_pressalike_k06_words_in_their_order) (n := 63) (k := 9) (x := "_law_script") (CX := L2.CX0) rfl (by decide) (by kernel_rfl) ⟨rfl, by decide, by decide⟩ ?F (fun _ _ _ _ z => z)
    intro w mg fa h Y G hmg0
    obtain ⟨K, KX, c⟩ := Y
    have hmg : mg ("law" : PySem.Str) = some (.ref fa) := by
      have e : (HandSHeadRun.topDef (OpenLaw.row PySem.Challenge.rw_pressalike_k06_words_in_their_order).prog 43).name = ("law" : PySem.Str) := by kernel_rfl
      rw [← e]
      exact hmg0
    obtain ⟨fd, hb, hF⟩ := Mr.facts (P := (PySem.Challenge.rw_pressalike_k06_words_in_their_order).prog) (w := w) KX G hmg c
    exact ⟨K, fd, Mr.sp_law K w, KX, hb, fun H a ns hl _ hS => by
      obtain ⟨G, S, hG⟩ := Mr.Sub.start (O := []) hS (fun _ h => nomatch h) List.nodup_nil
      exact ⟨G, [], .ref a, ns, rfl, S, ⟨a, _, rfl, hG, Mr.Al.ofSc⟩, true, Mr.law_plain ns hl, fun _ _ _ _ => rfl⟩, hF⟩
