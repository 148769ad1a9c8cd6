import PyProof.Rows.All
import Wide.All
import OpenK.AllK
import Wide.FinOn
import HandS.ForMost
import KE.GoesEnum
import HandS.ForExc
import HandS.Wide
import HandS.IsInst
import HandS.Style
import HandS.Walk
import HandS.Conv
import HandS.Flow
import HandS.Defaults
import HandS.Star
import HandS.Deep
import HandS.Head0
import HandS.Head1
import HandS.Head2
import HandS.HeadEnd
import HandS.HeadHook1
import HandS.HeadHook2
import HandS.HeadWalk
import PySem.Challenge.RW_pressalike_k44_joint_blocks_and_plain_pa
set_option Elab.async false
set_option linter.all false
set_option maxRecDepth 100000
set_option maxHeartbeats 2000000
/-! MirE: enumerate of a tuple, of a list or a tuple. -/
namespace Mr
open PySem PySem.Spec PyProof.Rows L2
theorem meets_enum1 {v : Value} {o : Obj} {H : Heap → Prop} (B : Begins v o H) :
    Meets (Builtin.«enumerate.__new__» ⟨[.type "enumerate", v], []⟩) (fun _ R s => H s.heap ∧
      R (.ok (.ret (.ref (s.heap.push o).objs.size))) { s with heap := (s.heap.push o).push { cls := .type "enumerate", data := .fields #[.none, .bool false, .ref s.heap.objs.size, rawInt 0, .none, .none] } }) :=
  .of_wp fun prog w A R s h => by
    obtain ⟨hp, g, d, tk, os⟩ := s; obtain ⟨h1, h⟩ := h
    have hsub := sub_enumerate
    have q1 : ∀ {A' : Around} {E : Value → Shared → Prop} {Q : Value → Shared → Prop}, Q (.ref hp.objs.size) ⟨hp.push o, g, d, tk, os⟩ → wpAny (model prog w) A' (pyIter v) Q E ⟨hp, g, d, tk, os⟩ :=
      fun q => B.iter prog w _ _ ⟨hp, g, d, tk, os⟩ _ h1 q
    wp_walk using q1
    refine wpAny_stack_any fun st => wpAny_pure ?_
    split
    · rename_i c _ _ _ _ _
      cases (c == Value.type "enumerate")
      · wp_walk using q1
        exact ⟨_, rfl, h⟩
      · wp_walk using q1
        exact ⟨_, rfl, h⟩
    · wp_walk using q1
      exact ⟨_, rfl, h⟩
theorem call_enum1 {prog : Program} {w : World} {A : Around} {E : Value → Shared → Prop} {s : Shared} {v : Value} {o : Obj} {H : Heap → Prop} {Q : Value → Shared → Prop} (B : Begins v o H) (h1 : H s.heap)
    (h : ∀ h', IsEnum h' (s.heap.objs.size + 1) s.heap.objs.size 0 .none → h'.get? s.heap.objs.size = some o → h'.objs.size = s.heap.objs.size + 2 →
      (∀ b o, s.heap.get? b = some o → h'.get? b = some o) → Q (.ref (s.heap.objs.size + 1)) { s with heap := h' }) :
    wpAny (model prog w) A (call (.type "enumerate") [v]) Q E s := by
  refine callType_new F.called_enumerate (by decide) (F.typeCall_enumerate_1 _) (F.newCall_enumerate_1 _) (fun obj => F.args_object_init_2 obj _) F.entry_enumerate_new
    (meets_enum1 B) ⟨h1, ?_⟩
  have hz : (s.heap.push o).objs.size = s.heap.objs.size + 1 := Heap.size_push ..
  show _ ∧ _
  rw [hz]
  have he : IsEnum ((s.heap.push o).push { cls := .type "enumerate", data := .fields #[.none, .bool false, .ref s.heap.objs.size, rawInt 0, .none, .none] }) (s.heap.objs.size + 1) s.heap.objs.size 0 .none := by
    have := Heap.get?_push_size (s.heap.push o) (o := { cls := .type "enumerate", data := .fields #[.none, .bool false, .ref s.heap.objs.size, rawInt 0, .none, .none] }) rfl
    rw [hz] at this; exact this
  refine ⟨⟨_, he, rfl⟩, h _ he (Heap.get?_push_of_some _ (Heap.get?_push_size _ B.free)) (by rw [Heap.size_push, hz]) fun b o x => Heap.get?_push_of_some _ (Heap.get?_push_of_some _ x)⟩
/-- the tuple at a, each item in a new pair -/
def IteT (K : PySem.W.Frag) (a : Addr) : It :=
  ⟨fun i H => ∃ (xs : List V) (x : V), SqT K H a xs ∧ xs[i]? = some x, fun i H v H' => ∃ T x, v = .ref T ∧ H T = none ∧ H' = upd H T (.tup [.int (i : Nat), x]) ∧ ∀ xs, SqT K H a xs → xs[i]? = some x, fun i H => ∃ xs : List V, SqT K H a xs ∧ xs.length = i⟩
theorem turn_enumT {P : Program} {w : World} {K : PySem.W.Frag} {elts : List Expr} {kk : Nat} {tpos : Pos} (a e it : Addr) :
    Turn P w K (.Tuple elts kk tpos) (IteT K a) [e, it] e (fun i h => (∃ old, IsEnum h e it ((i : Nat) : Int) old) ∧ h.IsTupleIter it a i ∧ e ≠ it ∧ a ≠ it ∧ a ≠ e) where
  mem := by simp
  obj := fun i h st b hb => by
    obtain ⟨⟨old, he⟩, ⟨o, ho, hc, hd⟩, _⟩ := st
    have e' : b = e ∨ b = it := by simpa using hb
    rcases e' with z | z
    · rw [z]; exact ⟨_, he, fun v q => nomatch q⟩
    · rw [z]; exact ⟨o, ho, fun v q => by rw [hd] at q; cases q⟩
  keep := fun i h h' st k => let ⟨⟨old, he⟩, hi, hne⟩ := st; ⟨⟨old, k e (by simp) _ he⟩, hi.at fun o q => k it (by simp) o q, hne⟩
  item := by
    intro X hP hw hK hc i pins s σ H E I hf st hg
    subst hP hw hK
    obtain ⟨⟨old, he⟩, hit, hne, hai, hae⟩ := st
    obtain ⟨xs, x, hq, hx⟩ := hg
    obtain ⟨its, rv, p, hz⟩ := I.tuple hq
    have hi : i < its.length := by rw [← rv.length]; exact (List.getElem?_eq_some_iff.mp hx).1
    have hel : e < s.heap.objs.size := Heap.lt_size he
    have hil : it < s.heap.objs.size := by obtain ⟨_, q, _⟩ := hit; exact Heap.lt_size q
    have D : Draws X.prog X.w X.A.in1 it [it, a] its.toArray.size (fun i v => its.toArray[i]? = some v) (fun i h => h.IsTupleIter it a i ∧ h.IsTuple a its.toArray) := Draws.tuple (A := X.A.in1) (show X.A.in1.handled = none from I.ok.hd hc) it a hai its.toArray
    refine wpAny_pyNext_enum_itemC D he ⟨hit, p⟩ (by simpa using hi) hne (fun hm => ?_) fun u h' tk hu ho hst' hT hsz hk => ?_
    · rcases List.mem_cons.mp hm with z | hm
      · exact hne z
      · rcases List.mem_cons.mp hm with z | hm
        · exact hae z.symm
        · cases hm
    obtain ⟨u', hu', ru⟩ := rv.get hx
    have hu2 : its[i]? = some u := by simpa using hu
    rw [hu2] at hu'
    cases hu'
    refine ⟨_, rfl, wpAny_letOwnedTupleGo_enum (s := { s with heap := h', toks := tk + 1 }) ho fun h'' he' sb => ?_⟩
    have hT2 : h''.get? s.heap.objs.size = some { cls := .type "tuple", data := .seq #[.int i tk, u] } := (sb.2 _ (Nat.ne_of_gt hel)).trans hT
    have new : ObjOk X.prog X.w (upd H s.heap.objs.size (.tup [.int (i : Nat), x])) h'' s.heap.objs.size (.tup [.int (i : Nat), x]) :=
      ⟨by show 2 ≤ sizeLine; decide, [.int i tk, u], .cons ⟨_, rfl⟩ (.cons ru .nil), ⟨_, hT2, rfl, _, rfl⟩⟩
    have I1 : Inv X pins σ (upd H s.heap.objs.size (.tup [.int (i : Nat), x])) { s with heap := h'', toks := tk + 1 } :=
      I.turnedNew (ch := [e, it]) (fun b ob hb q => (sb.2 b (fun z => hb (by simp [z]))).trans (hk b ob (fun z => hb (by simp [z])) (fun z => hb (by simp [z])) q)) hf (Nat.le_refl _) new
    refine ⟨.ref s.heap.objs.size, _, I1, rfl, ⟨_, x, rfl, I.hok.fresh (Nat.le_refl _), rfl, fun ys hy => by rw [I.tuple_inj hy hq]; exact hx⟩, ⟨⟨u, ?_⟩, hst'.1.at fun o q => (sb.2 it (Ne.symm hne)).trans q, hne, hai, hae⟩, fun b hb => ?_⟩
    · have e1 : ((i + 1 : Nat) : Int) = (i : Int) + 1 := by omega
      rw [e1]; exact he'
    · have hb' : b < s.heap.objs.size := by
        have e' : b = e ∨ b = it := by simpa using hb
        rcases e' with z | z
        · rw [z]; exact hel
        · rw [z]; exact hil
      rw [upd_ne (Nat.ne_of_lt hb')]
      exact (hf b hb).1
  done := by
    intro X hP hw hK hc i pins s σ H E I hf st hg
    subst hP hw hK
    obtain ⟨⟨old, he⟩, hit, hne, hai, hae⟩ := st
    obtain ⟨xs, hq, hx⟩ := hg
    obtain ⟨its, rv, p, hz⟩ := I.tuple hq
    obtain ⟨f0, f1, f2, f3, f4, f5⟩ := hf it (by simp)
    have hl := rv.length
    have D : Draws X.prog X.w X.A.in1 it [it, a] its.toArray.size (fun i v => its.toArray[i]? = some v) (fun i h => h.IsTupleIter it a i ∧ h.IsTuple a its.toArray) := Draws.tuple (A := X.A.in1) (show X.A.in1.handled = none from I.ok.hd hc) it a hai its.toArray
    have e0 : its.toArray.size = i := by simp; omega
    refine wpAny_pyNext_enum_endD D he (by rw [e0]; exact ⟨hit, p⟩) fun h' eb => ⟨rfl, I.turned (t' := s.toks) (fun b o hb q => eb b o hb q) f0 f1 f3 f4 f5⟩
  self := fun A i s Q E st h => let ⟨⟨_, he⟩, _⟩ := st; wpAny_pyIter_enum he h
def iEnumQ (K : PySem.W.Frag) (ta : TA) : TI := fun σ H R => ta σ H fun vs H1 => ∃ a xs, vs = [.ref a] ∧ ((SqL K H1 a xs ∧ R (Ite K a) H1) ∨ (SqT K H1 a xs ∧ R (IteT K a) H1))
theorem pi_enumQ {X : Cx} {e : Expr} {ta : TA} {p pos tpos : Pos} {elts : List Expr} {kk : Nat} (hg : Gl X "enumerate") (hm : X.mg "enumerate" = none) (ha : PA X [e] ta) (hs : starEach [e] X.env = [(false, eval e X.env)] := by rfl) :
    PI X (.Tuple elts kk tpos) (.Call (.Name "enumerate" p) [e] [] pos) (iEnumQ X.K ta) := by
  refine ⟨fun pins s σ H R I h => ?_⟩
  refine Call_ (ld_blt I hg hm boot_enumerate (PyProof.Rows.callWith_type1 (thn (ha.run pos pins s σ H _ I h) fun us s1 ⟨vs, H1, I1, r1, q1⟩ => ?_) hs rfl))
  obtain ⟨a, xs, ex, hqq⟩ := q1
  subst ex
  cases r1 with
  | cons r rr =>
    cases rr
    cases r
    have fin : ∀ b, b ∈ [s1.heap.objs.size + 1, s1.heap.objs.size] → s1.heap.objs.size ≤ b := fun b hb => by
      have e' : b = s1.heap.objs.size + 1 ∨ b = s1.heap.objs.size := by simpa using hb
      rcases e' with z | z
      · rw [z]; exact Nat.le_add_right _ _
      · rw [z]; exact Nat.le_refl _
    rcases hqq with ⟨hq, q⟩ | ⟨hq, q⟩
    · obtain ⟨its, rv, p', hz⟩ := I1.list hq
      refine call_enumerate_list p'.isList fun h' he hit hsz hk => wpAny_pyIter_enum he ?_
      have I2 : Inv X pins σ H1 { s1 with heap := h' } := I1.kept (t' := s1.toks) hk
      exact ⟨s1.heap.objs.size + 1, [s1.heap.objs.size + 1, s1.heap.objs.size], _, _, H1, rfl, I2, turn_enum a (s1.heap.objs.size + 1) s1.heap.objs.size, ⟨⟨.none, he⟩, hit, Nat.succ_ne_self _⟩, fun b hb => I1.fpOk (fin b hb) (I1.hok.fresh (fin b hb)), q⟩
    · obtain ⟨its, rv, p', hz⟩ := I1.tuple hq
      have hlt : a < s1.heap.objs.size := by obtain ⟨_, q, _⟩ := id p'; exact Heap.lt_size q
      refine call_enum1 (begins_tuple a its.toArray) p' fun h' he hit hsz hk => wpAny_pyIter_enum he ?_
      have I2 : Inv X pins σ H1 { s1 with heap := h' } := I1.kept (t' := s1.toks) hk
      exact ⟨s1.heap.objs.size + 1, [s1.heap.objs.size + 1, s1.heap.objs.size], _, _, H1, rfl, I2, turn_enumT a (s1.heap.objs.size + 1) s1.heap.objs.size,
        ⟨⟨.none, he⟩, ⟨_, hit, rfl, rfl⟩, Nat.succ_ne_self _, Nat.ne_of_lt hlt, Nat.ne_of_lt (Nat.lt_succ_of_lt hlt)⟩, fun b hb => I1.fpOk (fin b hb) (I1.hok.fresh (fin b hb)), q⟩
end Mr

set_option linter.all false
set_option maxRecDepth 100000
/-! MirP: the plain part of the mirrors: Option computations (none: the model's rules do not cover it), folds, loops. -/
namespace Mr
theorem bindS {α β : Type} {o : Option α} {f : α → Option β} {r : β} (h : o.bind f = some r) : ∃ a, o = some a ∧ f a = some r := by
  cases o with
  | none => cases h
  | some a => exact ⟨a, rfl, h⟩
def fdivM (a b : Int) : Option Int := if 0 < b ∧ b.natAbs.log2 < 9000 then some (a / b) else none
def modM (a b : Int) : Option Int := if 0 < b then some (a % b) else none
def mulM (a b : Int) : Option Int := if (-(2 ^ 64) < a ∧ a < 2 ^ 64) ∨ (-(2 ^ 64) < b ∧ b < 2 ^ 64) then some (a * b) else none
def ixM (n : Nat) (i : Int) : Option Nat := if 0 ≤ i then (if i < n then some i.toNat else none) else if -(n : Int) ≤ i then some (i + n).toNat else none
def getM {α : Type} (xs : List α) (i : Int) : Option α := (ixM xs.length i).bind fun j => xs[j]?
def setM {α : Type} (xs : List α) (i : Int) (x : α) : Option (List α) := (ixM xs.length i).bind fun j => some (xs.set j x)
def appM {α : Type} (xs : List α) (x : α) : Option (List α) := if xs.length < 100000 then some (xs ++ [x]) else none
def rngM (n : Int) : Option (List Int) := if -(2 ^ 62) ≤ n ∧ n < 2 ^ 62 then some ((List.range n.toNat).map fun (i : Nat) => (i : Int)) else none
def rng2M (a b : Int) : Option (List Int) := if -(2 ^ 62) ≤ a ∧ a < 2 ^ 62 ∧ -(2 ^ 62) ≤ b ∧ b < 2 ^ 62 then some ((List.range (b - a).toNat).map fun (i : Nat) => a + (i : Int)) else none
def enumF {α : Type} : Nat → List α → List (Int × α)
  | _, [] => []
  | k, x :: xs => ((k : Int), x) :: enumF (k + 1) xs
def enumM {α : Type} (xs : List α) : List (Int × α) := enumF 0 xs
def slIx (n d : Nat) : Option Int → Nat
  | none => d
  | some v => if v < 0 then (v + (n : Int)).toNat else min v.toNat n
def cutM {α : Type} (xs : List α) (lo hi : Option Int) : List α := (xs.drop (slIx xs.length 0 lo)).take (slIx xs.length xs.length hi - slIx xs.length 0 lo)
def catM {α : Type} (xs ys : List α) : Option (List α) := if xs.length + ys.length ≤ 100000 then some (xs ++ ys) else none
theorem catM_some {α : Type} {xs ys zs : List α} (h : catM xs ys = some zs) : xs.length + ys.length ≤ 100000 ∧ xs ++ ys = zs := by
  unfold catM at h
  split at h
  · rename_i c; exact ⟨c, Option.some.inj h⟩
  · cases h
def szM {α : Type} (xs : List α) : Option (List α) := if xs.length ≤ 100000 then some xs else none
theorem szM_some {α : Type} {xs ys : List α} (h : szM xs = some ys) : xs.length ≤ 100000 ∧ xs = ys := by
  unfold szM at h
  split at h
  · rename_i c; exact ⟨c, Option.some.inj h⟩
  · cases h
/-- a loop that is never left -/
def folM {α σ : Type} (f : σ → α → Option σ) : List α → σ → Option σ
  | [], s => some s
  | x :: xs, s => (f s x).bind fun s' => folM f xs s'
/-- a turn's end, a loop's end -/
inductive Bf (σ ρ : Type) where
  | go (s : σ) | bk (s : σ) | rt (r : ρ)
inductive Fl (σ ρ : Type) where
  | nx (s : σ) | rt (r : ρ)
def forL {α σ ρ : Type} (f : σ → α → Option (Bf σ ρ)) : List α → σ → Option (Fl σ ρ)
  | [], s => some (.nx s)
  | x :: xs, s => (f s x).bind fun b => match b with
    | .go s' => forL f xs s'
    | .bk s' => some (.nx s')
    | .rt r => some (.rt r)
def conL {α σ ρ : Type} (f : σ → α → Option (Bf σ ρ)) (xs : List α) : Bf σ ρ → Option (Fl σ ρ)
  | .go s' => forL f xs s'
  | .bk s' => some (.nx s')
  | .rt r => some (.rt r)
theorem forL_cons {α σ ρ : Type} {f : σ → α → Option (Bf σ ρ)} {x : α} {xs : List α} {s : σ} : forL f (x :: xs) s = (f s x).bind (conL f xs) := by
  show (f s x).bind _ = _
  congr 1
/-- [e for x in xs if t]: none of a turn: left out -/
def mapM' {α β : Type} (f : α → Option β) : List α → Option (List β)
  | [] => some []
  | x :: xs => (f x).bind fun y => (mapM' f xs).bind fun ys => some (y :: ys)
def selM {α β : Type} (f : α → Option (Option β)) : List α → Option (List β)
  | [] => some []
  | x :: xs => (f x).bind fun y => (selM f xs).bind fun ys => some (match y with
    | some z => z :: ys
    | none => ys)
/-- while: n turns at most -/
def whlM {σ : Type} (c : σ → Option Bool) (f : σ → Option σ) : Nat → σ → Option σ
  | 0, _ => none
  | n + 1, s => (c s).bind fun b => if b then (f s).bind fun s' => whlM c f n s' else some s
/-- while: test and body as one turn; N turns at most -/
def whL {σ ρ : Type} (f : σ → Option (Bf σ ρ)) : Nat → σ → Option (Fl σ ρ)
  | 0, _ => none
  | n + 1, s => (f s).bind fun b => match b with
    | .go s' => whL f n s'
    | .bk s' => some (.nx s')
    | .rt r => some (.rt r)
def conW {σ ρ : Type} (f : σ → Option (Bf σ ρ)) (n : Nat) : Bf σ ρ → Option (Fl σ ρ)
  | .go s' => whL f n s'
  | .bk s' => some (.nx s')
  | .rt r => some (.rt r)
theorem whL_succ {σ ρ : Type} {f : σ → Option (Bf σ ρ)} {n : Nat} {s : σ} : whL f (n + 1) s = (f s).bind (conW f n) := by
  show (f s).bind _ = _
  congr 1
def goF {α σ : Type} (ρ : Type) (f : σ → α → Option σ) : σ → α → Option (Bf σ ρ) := fun s x => (f s x).bind fun s' => some (.go s')
theorem goF_some {α σ ρ : Type} {f : σ → α → Option σ} {s : σ} {x : α} {b : Bf σ ρ} (h : goF ρ f s x = some b) : ∃ s', f s x = some s' ∧ Bf.go s' = b := by
  obtain ⟨s', h1, h2⟩ := bindS h
  exact ⟨s', h1, Option.some.inj h2⟩
theorem fol_for {α σ : Type} (ρ : Type) {f : σ → α → Option σ} : ∀ {xs : List α} {s r : σ}, folM f xs s = some r → forL (goF ρ f) xs s = some (.nx r)
  | [], s, r, h => by cases h; rfl
  | x :: xs, s, r, h => by
    obtain ⟨s', h1, h2⟩ := bindS h
    rw [forL_cons]
    show ((f s x).bind fun s' => some (Bf.go s')).bind _ = _
    rw [h1]
    exact fol_for ρ h2
theorem mulM_some {a b x : Int} (h : mulM a b = some x) : ((-(2 ^ 64) < a ∧ a < 2 ^ 64) ∨ (-(2 ^ 64) < b ∧ b < 2 ^ 64)) ∧ a * b = x := by
  unfold mulM at h
  split at h
  · rename_i c; exact ⟨c, Option.some.inj h⟩
  · cases h
theorem fdivM_some {a b x : Int} (h : fdivM a b = some x) : (0 < b ∧ b.natAbs.log2 < 9000) ∧ a / b = x := by
  unfold fdivM at h
  split at h
  · rename_i c; exact ⟨c, Option.some.inj h⟩
  · cases h
theorem modM_some {a b x : Int} (h : modM a b = some x) : 0 < b ∧ a % b = x := by
  unfold modM at h
  split at h
  · rename_i c; exact ⟨c, Option.some.inj h⟩
  · cases h
theorem appM_some {α : Type} {xs ys : List α} {x : α} (h : appM xs x = some ys) : xs.length < 100000 ∧ xs ++ [x] = ys := by
  unfold appM at h
  split at h
  · rename_i c; exact ⟨c, Option.some.inj h⟩
  · cases h
theorem setM_some {α : Type} {xs ys : List α} {i : Int} {x : α} (h : setM xs i x = some ys) : ∃ j, ixM xs.length i = some j ∧ xs.set j x = ys := by
  obtain ⟨j, h1, h2⟩ := bindS h
  exact ⟨j, h1, Option.some.inj h2⟩
theorem rngM_some {n : Int} {xs : List Int} (h : rngM n = some xs) : (-(2 ^ 62) ≤ n ∧ n < 2 ^ 62) ∧ (List.range n.toNat).map (fun (i : Nat) => (i : Int)) = xs := by
  unfold rngM at h
  split at h
  · rename_i c; exact ⟨c, Option.some.inj h⟩
  · cases h
theorem rng2M_some {a b : Int} {xs : List Int} (h : rng2M a b = some xs) : (-(2 ^ 62) ≤ a ∧ a < 2 ^ 62 ∧ -(2 ^ 62) ≤ b ∧ b < 2 ^ 62) ∧ (List.range (b - a).toNat).map (fun (i : Nat) => a + (i : Int)) = xs := by
  unfold rng2M at h
  split at h
  · rename_i c; exact ⟨c, Option.some.inj h⟩
  · cases h
theorem folM_drop {α σ : Type} {f : σ → α → Option σ} {xs : List α} {s r : σ} {i : Nat} {x : α} (hx : xs[i]? = some x) (h : folM f (xs.drop i) s = some r) :
    ∃ s', f s x = some s' ∧ folM f (xs.drop (i + 1)) s' = some r := by
  have hi : i < xs.length := (List.getElem?_eq_some_iff.mp hx).1
  have e : xs[i] = x := (List.getElem?_eq_some_iff.mp hx).2
  rw [List.drop_eq_getElem_cons hi, e] at h
  exact bindS h
theorem forL_drop {α σ ρ : Type} {f : σ → α → Option (Bf σ ρ)} {xs : List α} {s : σ} {r : Fl σ ρ} {i : Nat} {x : α} (hx : xs[i]? = some x) (h : forL f (xs.drop i) s = some r) :
    ∃ b, f s x = some b ∧ conL f (xs.drop (i + 1)) b = some r := by
  have hi : i < xs.length := (List.getElem?_eq_some_iff.mp hx).1
  have e : xs[i] = x := (List.getElem?_eq_some_iff.mp hx).2
  rw [List.drop_eq_getElem_cons hi, e, forL_cons] at h
  exact bindS h
theorem enumF_get {α : Type} : ∀ (xs : List α) (k i : Nat), (enumF k xs)[i]? = (xs[i]?).map fun x => (((k + i : Nat) : Int), x)
  | [], k, i => by simp [enumF]
  | x :: xs, k, 0 => by simp [enumF]
  | x :: xs, k, i + 1 => by
    show (enumF (k + 1) xs)[i]? = _
    rw [enumF_get xs (k + 1) i]
    have e : k + 1 + i = k + (i + 1) := by omega
    rw [e]
    rfl
theorem enumF_length {α : Type} : ∀ (xs : List α) (k : Nat), (enumF k xs).length = xs.length
  | [], _ => rfl
  | x :: xs, k => congrArg Nat.succ (enumF_length xs (k + 1))
theorem enumM_get {α : Type} (xs : List α) (i : Nat) : (enumM xs)[i]? = (xs[i]?).map fun x => ((i : Int), x) := by
  unfold enumM
  rw [enumF_get, Nat.zero_add]
theorem enumM_length {α : Type} (xs : List α) : (enumM xs).length = xs.length := enumF_length xs 0
end Mr

set_option Elab.async false
set_option linter.all false
set_option maxRecDepth 100000
set_option maxHeartbeats 2000000
/-! Mir: worlds (frozen part G, owned part O), what data a value stands for (R), steps and loops over the readings of HandS. -/
namespace Mr
open PySem PySem.Spec PyProof.Rows L2

/-! ### worlds -/
def Ext (G H : Hp) : Prop := ∀ a o, G a = some o → H a = some o
theorem Ext.refl (H : Hp) : Ext H H := fun _ _ h => h
theorem Ext.trans {H H1 H2 : Hp} (a : Ext H H1) (b : Ext H1 H2) : Ext H H2 := fun x o h => b x o (a x o h)
abbrev Own := List (Addr × HO)
structure Sub (G : Hp) (O : Own) (H : Hp) : Prop where
  ext : Ext G H
  own : ∀ p ∈ O, H p.1 = some p.2 ∧ G p.1 = none
  nd : (O.map (·.1)).Nodup
section
variable {G G' H H' : Hp} {O O' : Own} {a b p : Addr} {o o' : HO}
theorem Sub.gnone (S : Sub G O H) (hp : H p = none) : G p = none := by
  cases h : G p with
  | none => rfl
  | some u => rw [S.ext p u h] at hp; cases hp
theorem Sub.junk (S : Sub G O H) (hp : H p = none) : Sub G O (upd H p o) := by
  refine ⟨fun x u h => ?_, fun q hq => ?_, S.nd⟩
  · rw [upd_ne (ne_of_none (S.ext x u h) hp)]; exact S.ext x u h
  · obtain ⟨h1, h2⟩ := S.own q hq
    exact ⟨by rw [upd_ne (ne_of_none h1 hp)]; exact h1, h2⟩
theorem Sub.extNew (S : Sub G O H) (hp : H p = none) (o : HO) : Ext G (upd G p o) := fun x u h => by
  rw [upd_ne (ne_of_none h (S.gnone hp))]; exact h
theorem Sub.new (S : Sub G O H) (hp : H p = none) : Sub (upd G p o) O (upd H p o) := by
  refine ⟨fun x u h => ?_, fun q hq => ?_, S.nd⟩
  · by_cases e : x = p
    · subst e; rw [upd_same] at h ⊢; exact h
    · rw [upd_ne e] at h ⊢; exact S.ext x u h
  · obtain ⟨h1, h2⟩ := S.own q hq
    have e := ne_of_none h1 hp
    exact ⟨by rw [upd_ne e]; exact h1, by rw [upd_ne e]; exact h2⟩
theorem Sub.newOwn (S : Sub G O H) (hp : H p = none) : Sub G ((p, o) :: O) (upd H p o) := by
  refine ⟨(S.junk hp).ext, fun q hq => ?_, ?_⟩
  · rcases List.mem_cons.mp hq with e | hq
    · subst e; exact ⟨upd_same, S.gnone hp⟩
    · exact (S.junk hp).own q hq
  · refine List.nodup_cons.mpr ⟨fun hm => ?_, S.nd⟩
    obtain ⟨q, hq, e⟩ := List.mem_map.mp hm
    exact ne_of_none (S.own q hq).1 hp e
theorem Sub.head (S : Sub G ((a, o) :: O) H) : H a = some o := (S.own (a, o) (List.mem_cons_self ..)).1
theorem Sub.ghead (S : Sub G ((a, o) :: O) H) : G a = none := (S.own (a, o) (List.mem_cons_self ..)).2
theorem Sub.tail (S : Sub G ((a, o) :: O) H) : Sub G O H :=
  ⟨S.ext, fun q hq => S.own q (List.mem_cons_of_mem _ hq), (List.nodup_cons.mp S.nd).2⟩
theorem Sub.head_ne (S : Sub G ((a, o) :: O) H) : ∀ q ∈ O, q.1 ≠ a := fun q hq e =>
  (List.nodup_cons.mp S.nd).1 (List.mem_map.mpr ⟨q, hq, e⟩)
/-- the first owned object is written -/
theorem Sub.wr (S : Sub G ((a, o) :: O) H) : Sub G ((a, o') :: O) (upd H a o') := by
  refine ⟨fun x u h => ?_, fun q hq => ?_, S.nd⟩
  · have e : x ≠ a := ne_of_none h S.ghead
    rw [upd_ne e]; exact S.ext x u h
  · rcases List.mem_cons.mp hq with e | hq
    · subst e; exact ⟨upd_same, S.ghead⟩
    · have e := S.head_ne q hq
      exact ⟨by rw [upd_ne e]; exact (S.tail.own q hq).1, (S.tail.own q hq).2⟩
/-- the first owned object is frozen -/
theorem Sub.frz (S : Sub G ((a, o) :: O) H) : Sub (upd G a o) O H := by
  refine ⟨fun x u h => ?_, fun q hq => ?_, S.tail.nd⟩
  · by_cases e : x = a
    · subst e; rw [upd_same] at h; cases h; exact S.head
    · rw [upd_ne e] at h; exact S.ext x u h
  · rw [upd_ne (S.head_ne q hq)]; exact S.tail.own q hq
theorem Sub.extFrz (S : Sub G ((a, o) :: O) H) : Ext G (upd G a o) := fun x u h => by
  rw [upd_ne (ne_of_none h S.ghead)]; exact h
theorem Sub.perm (S : Sub G O H) (h : O.Perm O') : Sub G O' H :=
  ⟨S.ext, fun q hq => S.own q (h.mem_iff.mpr hq), (h.map _).nodup_iff.mp S.nd⟩
theorem perm_erase {α : Type} : ∀ (l : List α) (i : Nat) (q : α), l[i]? = some q → l.Perm (q :: l.eraseIdx i)
  | [], i, q, h => by simp at h
  | x :: l, 0, q, h => by simp at h; subst h; exact List.Perm.refl _
  | x :: l, i + 1, q, h => by
    have ih := perm_erase l i q (by simpa using h)
    exact (List.Perm.cons x ih).trans (List.Perm.swap q x _)
/-- the i-th owned object to the front -/
theorem Sub.front (S : Sub G O H) (i : Nat) {q : Addr × HO} {O' : Own} (h : O[i]? = some q) (h' : O.eraseIdx i = O') : Sub G (q :: O') H := by
  subst h'
  exact S.perm (perm_erase O i q h)
theorem Sub.of (H : Hp) : Sub H [] H := ⟨Ext.refl H, fun q h => (nomatch h), List.nodup_nil⟩
end

/-! ### what a value stands for -/
structure R (α : Type) where
  rel : Hp → V → α → Prop
  mono : ∀ {G G' : Hp} {v : V} {x : α}, Ext G G' → rel G v x → rel G' v x
theorem R.up {α : Type} {r : R α} {G G' : Hp} {v : V} {x : α} (e : Ext G G') (h : r.rel G v x) : r.rel G' v x := r.mono e h
def rSc {α : Type} (f : α → V) : R α := ⟨fun _ v x => v = f x, fun _ h => h⟩
abbrev rInt : R Int := rSc V.int
abbrev rBool : R Bool := rSc V.bl
abbrev rStr : R Str := rSc V.str
abbrev rNon : R Unit := rSc fun _ => V.non
def Al {α : Type} (r : R α) (G : Hp) : List V → List α → Prop
  | [], [] => True
  | v :: vs, x :: xs => r.rel G v x ∧ Al r G vs xs
  | _, _ => False
section
variable {α β γ : Type} {r : R α} {G G' H : Hp} {K : PySem.W.Frag} {v w : V} {vs : List V} {x : α} {xs : List α} {a : Addr}
theorem Al.nil : Al r G [] [] := True.intro
theorem Al.up (e : Ext G G') : ∀ {vs : List V} {xs : List α}, Al r G vs xs → Al r G' vs xs
  | [], [], _ => True.intro
  | _ :: _, _ :: _, h => ⟨r.mono e h.1, Al.up e h.2⟩
  | [], _ :: _, h => h.elim
  | _ :: _, [], h => h.elim
theorem Al.len : ∀ {vs : List V} {xs : List α}, Al r G vs xs → vs.length = xs.length
  | [], [], _ => rfl
  | _ :: _, _ :: _, h => congrArg Nat.succ (Al.len h.2)
  | [], _ :: _, h => h.elim
  | _ :: _, [], h => h.elim
theorem Al.get : ∀ {vs : List V} {xs : List α} {i : Nat} {x : α}, Al r G vs xs → xs[i]? = some x → ∃ v, vs[i]? = some v ∧ r.rel G v x
  | [], [], i, x, _, e => by simp at e
  | v :: vs, y :: xs, 0, x, h, e => by simp at e; subst e; exact ⟨v, rfl, h.1⟩
  | v :: vs, y :: xs, i + 1, x, h, e => by
    obtain ⟨w, h1, h2⟩ := Al.get (i := i) h.2 (by simpa using e)
    exact ⟨w, by simpa using h1, h2⟩
  | [], _ :: _, _, _, h, _ => h.elim
  | _ :: _, [], _, _, h, _ => h.elim
theorem Al.getV : ∀ {vs : List V} {xs : List α} {i : Nat} {v : V}, Al r G vs xs → vs[i]? = some v → ∃ x, xs[i]? = some x ∧ r.rel G v x
  | [], [], i, v, _, e => by simp at e
  | v :: vs, y :: xs, 0, w, h, e => by simp at e; subst e; exact ⟨y, rfl, h.1⟩
  | v :: vs, y :: xs, i + 1, w, h, e => by
    obtain ⟨z, h1, h2⟩ := Al.getV (i := i) h.2 (by simpa using e)
    exact ⟨z, by simpa using h1, h2⟩
  | [], _ :: _, _, _, h, _ => h.elim
  | _ :: _, [], _, _, h, _ => h.elim
theorem Al.app : ∀ {vs ws : List V} {xs ys : List α}, Al r G vs xs → Al r G ws ys → Al r G (vs ++ ws) (xs ++ ys)
  | [], _, [], _, _, h => h
  | _ :: _, _, _ :: _, _, h, h' => ⟨h.1, Al.app h.2 h'⟩
  | [], _, _ :: _, _, h, _ => h.elim
  | _ :: _, _, [], _, h, _ => h.elim
theorem Al.set : ∀ {vs : List V} {xs : List α} (i : Nat), Al r G vs xs → r.rel G v x → Al r G (vs.set i v) (xs.set i x)
  | [], [], _, _, _ => True.intro
  | _ :: _, _ :: _, 0, h, h' => ⟨h', h.2⟩
  | _ :: _, _ :: _, i + 1, h, h' => ⟨h.1, Al.set i h.2 h'⟩
  | [], _ :: _, _, h, _ => h.elim
  | _ :: _, [], _, h, _ => h.elim
theorem Al.take : ∀ {vs : List V} {xs : List α} (n : Nat), Al r G vs xs → Al r G (vs.take n) (xs.take n)
  | _, _, 0, _ => True.intro
  | [], [], _ + 1, _ => True.intro
  | _ :: _, _ :: _, n + 1, h => ⟨h.1, Al.take n h.2⟩
  | [], _ :: _, _ + 1, h => h.elim
  | _ :: _, [], _ + 1, h => h.elim
theorem Al.drop : ∀ {vs : List V} {xs : List α} (n : Nat), Al r G vs xs → Al r G (vs.drop n) (xs.drop n)
  | _, _, 0, h => h
  | [], [], _ + 1, _ => True.intro
  | _ :: _, _ :: _, n + 1, h => Al.drop n h.2
  | [], _ :: _, _ + 1, h => h.elim
  | _ :: _, [], _ + 1, h => h.elim
theorem Al.sc {f : α → V} : ∀ {vs : List V} {xs : List α}, Al (rSc f) G vs xs → vs = xs.map f
  | [], [], _ => rfl
  | _ :: _, _ :: _, h => by rw [h.1, Al.sc h.2]; rfl
  | [], _ :: _, h => h.elim
  | _ :: _, [], h => h.elim
theorem Al.ofSc {f : α → V} : ∀ {xs : List α}, Al (rSc f) G (xs.map f) xs
  | [] => True.intro
  | _ :: _ => ⟨rfl, Al.ofSc⟩
end
theorem sqL_up {K : PySem.W.Frag} {G G' : Hp} {a : Addr} {xs : List V} (e : Ext G G') (h : SqL K G a xs) : SqL K G' a xs := by
  rcases h with (h | ⟨o, h⟩) | h
  · exact .inl (.inl (e _ _ h))
  · exact .inl (.inr ⟨o, e _ _ h⟩)
  · exact .inr h
theorem sqT_up {K : PySem.W.Frag} {G G' : Hp} {a : Addr} {xs : List V} (e : Ext G G') (h : SqT K G a xs) : SqT K G' a xs := by
  rcases h with (h | ⟨o, h⟩) | h
  · exact .inl (.inl (e _ _ h))
  · exact .inl (.inr ⟨o, e _ _ h⟩)
  · exact .inr h
section
variable (K : PySem.W.Frag) {α β γ δ : Type}
/-- a list; a tuple of any length; either -/
def rL (r : R α) : R (List α) := ⟨fun G v xs => ∃ p vs, v = .ref p ∧ SqL K G p vs ∧ Al r G vs xs, fun e ⟨p, vs, h1, h2, h3⟩ => ⟨p, vs, h1, sqL_up e h2, h3.up e⟩⟩
def rT (r : R α) : R (List α) := ⟨fun G v xs => ∃ p vs, v = .ref p ∧ SqT K G p vs ∧ Al r G vs xs, fun e ⟨p, vs, h1, h2, h3⟩ => ⟨p, vs, h1, sqT_up e h2, h3.up e⟩⟩
def rQ (r : R α) : R (List α) := ⟨fun G v xs => ∃ p vs, v = .ref p ∧ (SqL K G p vs ∨ SqT K G p vs) ∧ Al r G vs xs, fun e ⟨p, vs, h1, h2, h3⟩ => ⟨p, vs, h1, h2.imp (sqL_up e) (sqT_up e), h3.up e⟩⟩
end

/-! ### rules with a cut, ints and bools compared -/
def tCutE (t : TE) : TE := fun σ H Q => ∃ J : VK, t σ H J ∧ ∀ v H', J v H' → Q v H'
def tCutT (t : TT) : TT := fun σ H Q => ∃ J : Bool → Hp → Prop, t σ H J ∧ ∀ b H', J b H' → Q b H'
def tCutS (t : TS) : TS := fun D σ H => ∃ J : L2.St → Hp → Prop, t { D with nx := J } σ H ∧ ∀ σ' H', J σ' H' → D.nx σ' H'
section
variable {X : Cx} {e : Expr} {st : Stmt} {te : TE} {tt : TT} {ts : TS}
theorem pe_cut (h : PE X e te) : PE X e (tCutE te) := by
  refine ⟨fun pins s σ H Q I hq => ?_⟩
  obtain ⟨J, h1, h2⟩ := hq
  exact thn (h.run pins s σ H J I h1) fun v s1 ⟨x, H1, I1, r1, q1⟩ => ⟨x, H1, I1, r1, h2 _ _ q1⟩
theorem pt_cut (h : PT X e tt) : PT X e (tCutT tt) := by
  refine ⟨fun pins s σ H Q I hq => ?_⟩
  obtain ⟨J, h1, h2⟩ := hq
  exact thn (h.run pins s σ H J I h1) fun b s1 ⟨H1, I1, q1⟩ => ⟨H1, I1, h2 _ _ q1⟩
theorem ps_cut (h : PS X st ts) : PS X st (tCutS ts) := by
  refine ⟨fun pins s σ H D I hq => ?_⟩
  obtain ⟨J, h1, h2⟩ := hq
  refine thn (h.run pins s σ H { D with nx := J } I h1) fun f s1 q => ?_
  cases f with
  | next => obtain ⟨σ', H', I', q⟩ := q; exact ⟨σ', H', I', h2 _ _ q⟩
  | ret v => exact q
  | brk => exact q
  | cont => exact q
theorem op_eqI : OpR X (compareOp .Eq) (rI0 fun i j => .bl (decide (i = j))) := fun pins s σ H x y v u Q I rx ry h => by
  obtain ⟨i, j, rfl, rfl, q⟩ := h
  refine op_eq pins s σ H _ _ v u Q I rx ry ⟨rfl, ?_⟩
  have e : decide (V.int i = V.int j) = decide (i = j) := by
    by_cases h : i = j
    · subst h; simp
    · rw [decide_eq_false h, decide_eq_false (fun z => h (V.int.inj z))]
  rw [e]; exact q
theorem op_neI : OpR X (compareOp .NotEq) (rI0 fun i j => .bl (!decide (i = j))) := fun pins s σ H x y v u Q I rx ry h => by
  obtain ⟨i, j, rfl, rfl, q⟩ := h
  refine op_ne pins s σ H _ _ v u Q I rx ry ⟨rfl, ?_⟩
  have e : decide (V.int i = V.int j) = decide (i = j) := by
    by_cases h : i = j
    · subst h; simp
    · rw [decide_eq_false h, decide_eq_false (fun z => h (V.int.inj z))]
  rw [e]; exact q
def rB0 (g : Bool → Bool → V) : R2 := fun x y H Q => ∃ i j, x = .bl i ∧ y = .bl j ∧ Q (g i j) H
theorem op_eqB : OpR X (compareOp .Eq) (rB0 fun i j => .bl (i == j)) := fun pins s σ H x y v u Q I rx ry h => by
  obtain ⟨i, j, rfl, rfl, q⟩ := h
  refine op_eq pins s σ H _ _ v u Q I rx ry ⟨rfl, ?_⟩
  have e : decide (V.bl i = V.bl j) = (i == j) := by cases i <;> cases j <;> rfl
  rw [e]; exact q
theorem op_neB : OpR X (compareOp .NotEq) (rB0 fun i j => .bl (i != j)) := fun pins s σ H x y v u Q I rx ry h => by
  obtain ⟨i, j, rfl, rfl, q⟩ := h
  refine op_ne pins s σ H _ _ v u Q I rx ry ⟨rfl, ?_⟩
  have e : (!decide (V.bl i = V.bl j)) = (i != j) := by cases i <;> cases j <;> rfl
  rw [e]; exact q
def rS0 (g : Str → Str → V) : R2 := fun x y H Q => ∃ i j, x = .str i ∧ y = .str j ∧ Q (g i j) H
theorem op_eqS : OpR X (compareOp .Eq) (rS0 fun i j => .bl (decide (i = j))) := fun pins s σ H x y v u Q I rx ry h => by
  obtain ⟨i, j, rfl, rfl, q⟩ := h
  refine op_eq pins s σ H _ _ v u Q I rx ry ⟨rfl, ?_⟩
  have e : decide (V.str i = V.str j) = decide (i = j) := by
    by_cases h : i = j
    · subst h; simp
    · rw [decide_eq_false h, decide_eq_false (fun z => h (V.str.inj z))]
  rw [e]; exact q
theorem op_neS : OpR X (compareOp .NotEq) (rS0 fun i j => .bl (!decide (i = j))) := fun pins s σ H x y v u Q I rx ry h => by
  obtain ⟨i, j, rfl, rfl, q⟩ := h
  refine op_ne pins s σ H _ _ v u Q I rx ry ⟨rfl, ?_⟩
  have e : decide (V.str i = V.str j) = decide (i = j) := by
    by_cases h : i = j
    · subst h; simp
    · rw [decide_eq_false h, decide_eq_false (fun z => h (V.str.inj z))]
  rw [e]; exact q
end

/-! ### relations by name -/
def rLenM (K : PySem.W.Frag) : List V → Hp → VK → Prop := fun xs H Q => ∃ p ys, xs = [.ref p] ∧ (SqL K H p ys ∨ SqT K H p ys) ∧ Q (.int ys.length) H
def rTupOf (K : PySem.W.Frag) : List V → Hp → VK → Prop := fun xs H Q => ∃ p ys, xs = [.ref p] ∧ ((SqL K H p ys ∧ ∀ l, H l = none → Q (.ref l) (upd H l (.tup ys))) ∨ (SqT K H p ys ∧ Q (.ref p) H))
def rListOf (K : PySem.W.Frag) : List V → Hp → VK → Prop := fun xs H Q => ∃ p ys, xs = [.ref p] ∧ (SqL K H p ys ∨ SqT K H p ys) ∧ ∀ l, H l = none → Q (.ref l) (upd H l (.lst ys))
section
variable {X : Cx}
theorem call_lenM : CallR X (.builtin "len") (rLenM X.K) := call_len_seq
theorem call_tupOf : CallR X (.type "tuple") (rTupOf X.K) := call_tuple_of
theorem call_listOf : CallR X (.type "list") (rListOf X.K) := call_list_of
end
def mkTup (xs : List V) (H : Hp) (Q : VK) : Prop := xs.length ≤ sizeLine ∧ ∀ p, H p = none → Q (.ref p) (upd H p (.tup xs))
def mkLst (xs : List V) (H : Hp) (Q : VK) : Prop := xs.length ≤ sizeLine ∧ ∀ p, H p = none → Q (.ref p) (upd H p (.lst xs))
def LpW (g : TG) (tb : TS) (D : Ends) (σ : L2.St) (J : It) (H : Hp) : Prop := ∃ W : Nat → Nat → L2.St → Hp → Prop, (∃ m, W 0 m σ H) ∧ ∀ i m σ H, W i m σ H →
  (J.stop i H ∧ D.nx σ H) ∨ (J.go i H ∧ ∃ N : L2.St → Hp → Prop, (∀ σ' H', N σ' H' → ∃ m', m' < m ∧ W (i + 1) m' σ' H') ∧ ∀ x H', J.yld i H x H' → g x σ H' fun σ2 H2 => tb { D with nx := N, ct := N, bk := D.nx } σ2 H2)
def itL (K : PySem.W.Frag) (x : V) (H : Hp) (RI : It → Hp → Prop) : Prop := ∃ a, x = .ref a ∧ (∃ xs, SqL K H a xs) ∧ RI (Itl K a) H
def itT (K : PySem.W.Frag) (x : V) (H : Hp) (RI : It → Hp → Prop) : Prop := ∃ a, x = .ref a ∧ (∃ xs, SqT K H a xs) ∧ RI (Itt K a) H
def itR (vs : List V) (H : Hp) (RI : It → Hp → Prop) : Prop := ∃ j : Int, vs = [.int j] ∧ -(2 ^ 62) ≤ j ∧ j < 2 ^ 62 ∧ RI (Itr 0 j.toNat) H
def itR2 (vs : List V) (H : Hp) (RI : It → Hp → Prop) : Prop := ∃ i j : Int, vs = [.int i, .int j] ∧ (-(2 ^ 62) ≤ i ∧ i < 2 ^ 62 ∧ -(2 ^ 62) ≤ j ∧ j < 2 ^ 62) ∧ RI (Itr i (j - i).toNat) H
def itE (K : PySem.W.Frag) (vs : List V) (H : Hp) (RI : It → Hp → Prop) : Prop := ∃ a xs, vs = [.ref a] ∧ ((SqL K H a xs ∧ RI (Ite K a) H) ∨ (SqT K H a xs ∧ RI (IteT K a) H))

/-! ### peeling a reading -/
section
variable {σ : L2.St} {H : Hp} {Q : VK} {QB : Bool → Hp → Prop} {QA : List V → Hp → Prop} {QO : Option Int → Hp → Prop} {v : V} {i j l : Nat} {ta tb te : TE} {tt tu : TT} {ts tr : TS} {t : TA} {D : Ends} {K : PySem.W.Frag}
theorem gV (e : σ[i]? = some (some v)) (h : Q v H) : tVar i σ H Q := ⟨v, e, h⟩
theorem gC (h : Q v H) : tC v σ H Q := h
theorem gOp {r : R2} (h : ta σ H fun x H1 => tb σ H1 fun y H2 => r x y H2 Q) : tOp r ta tb σ H Q := h
theorem gUn {r : V → Hp → VK → Prop} (h : ta σ H fun x H1 => r x H1 Q) : tUn r ta σ H Q := h
theorem gTest (h : te σ H fun x H' => ∃ k, x = .bl k ∧ QB k H') : tTest te σ H QB := h
theorem gB (h : te σ H fun x H' => ∃ k, x = .bl k ∧ QB k H') : tB te σ H QB := h
theorem gNot (h : tt σ H fun c H1 => QB (!c) H1) : tNot tt σ H QB := h
theorem gAnd (h : tt σ H fun c H1 => if c = true then tu σ H1 QB else QB false H1) : tAnd tt tu σ H QB := h
theorem gOr (h : tt σ H fun c H1 => if c = true then QB true H1 else tu σ H1 QB) : tOr tt tu σ H QB := h
theorem gAndV (h : ta σ H fun x H1 => ∃ c, x = .bl c ∧ if c = true then tb σ H1 Q else Q (.bl false) H1) : tAndV ta tb σ H Q := h
theorem gOrV (h : ta σ H fun x H1 => ∃ c, x = .bl c ∧ if c = true then Q (.bl true) H1 else tb σ H1 Q) : tOrV ta tb σ H Q := h
theorem gNotV (h : ta σ H fun x H1 => ∃ c, x = .bl c ∧ Q (.bl (!c)) H1) : tNotV ta σ H Q := h
theorem gIf (h : tt σ H fun c H1 => if c = true then ta σ H1 Q else tb σ H1 Q) : tIf tt ta tb σ H Q := h
theorem gCons' (h : ta σ H fun x H1 => t σ H1 fun xs H2 => QA (x :: xs) H2) : tCons ta t σ H QA := h
theorem gNil' (h : QA [] H) : tNil σ H QA := h
theorem gCB {r : List V → Hp → VK → Prop} (h : t σ H fun vs H1 => r vs H1 Q) : tCB r t σ H Q := h
theorem gCall {sp : Sp} {dvs : List V} {E : XK} (h : t σ H fun vs H1 => sp (vs ++ dvs) H1 Q E) : tCall sp dvs E t σ H Q := h
theorem gTup' (h : t σ H fun xs H1 => mkTup xs H1 Q) : tTup t σ H Q := h
theorem gLst (h : t σ H fun xs H1 => mkLst xs H1 Q) : tLst t σ H Q := h
theorem gSl {r : V → Option Int → Option Int → Hp → VK → Prop} {to tp : TO} (h : te σ H fun x H1 => to σ H1 fun l H2 => tp σ H2 fun u H3 => r x l u H3 Q) : tSl r te to tp σ H Q := h
theorem gPart (h : te σ H fun x H1 => ∃ i, x = .int i ∧ QO (some i) H1) : tPart te σ H QO := h
theorem gNoPart (h : QO none H) : tNoPart σ H QO := h
theorem gBM {T : String} {r : V → List V → Hp → VK → Prop} (h : te σ H fun x H1 => tyV K T x H1 ∧ t σ H1 fun xs H2 => r x xs H2 Q) : tBM K T r te t σ H Q := h
theorem gSeq (h : ts { D with nx := tr D } σ H) : tSeq ts tr D σ H := h
theorem gNext (h : D.nx σ H) : tNext D σ H := h
theorem gAsgN (h : te σ H fun x H1 => D.nx (σ.set i (some x)) H1) : tAsg te (gName i) D σ H := h
theorem gAsg {g : TG} (h : te σ H fun x H1 => g x σ H1 D.nx) : tAsg te g D σ H := h
theorem gSub' {ts' : TSet} {QS : L2.St → Hp → Prop} (h : ta σ H fun o H1 => tb σ H1 fun i H2 => ts' o i v H2 fun H3 => QS σ H3) : gSub ta tb ts' v σ H QS := h
theorem gPar (h : t σ H fun vs H1 => ∃ v w, vs = [v, w] ∧ D.nx ((σ.set i (some v)).set j (some w)) H1) : tPar i j t D σ H := h
theorem gPar3 (h : t σ H fun vs H1 => ∃ u v w, vs = [u, v, w] ∧ D.nx (((σ.set i (some u)).set j (some v)).set l (some w)) H1) : tPar3 i j l t D σ H := h
theorem gAug {ti : TIp} {x : V} (e : σ[i]? = some (some x)) (h : te σ H fun y H1 => ti x y H1 fun z H2 => D.nx (σ.set i (some z)) H2) : tAug i te ti D σ H := ⟨x, e, h⟩
theorem gDrop (h : te σ H fun _ H1 => D.nx σ H1) : tDrop te D σ H := h
theorem gRet (h : te σ H D.rt) : tRet te D σ H := h
theorem gIfS (h : tt σ H fun b H1 => if b = true then ts D σ H1 else tr D σ H1) : tIfS tt ts tr D σ H := h
theorem gFor {wi : TI} {g : TG} (h : wi σ H (LpW g ts D σ)) : tFor wi g ts D σ H := h
variable {RI : It → Hp → Prop}
theorem gIL (h : te σ H fun x H1 => itL K x H1 RI) : iList K te σ H RI := h
theorem gIT (h : te σ H fun x H1 => itT K x H1 RI) : iTup K te σ H RI := h
theorem gIR (h : t σ H fun vs H1 => itR vs H1 RI) : iRng1 t σ H RI := h
theorem gIR2 (h : t σ H fun vs H1 => itR2 vs H1 RI) : iRng2 t σ H RI := h
theorem gIE (h : t σ H fun vs H1 => itE K vs H1 RI) : iEnumQ K t σ H RI := h
theorem gCE (J : VK) (h : te σ H J) (h2 : ∀ v H', J v H' → Q v H') : tCutE te σ H Q := ⟨J, h, h2⟩
theorem gCT (J : Bool → Hp → Prop) (h : tt σ H J) (h2 : ∀ v H', J v H' → QB v H') : tCutT tt σ H QB := ⟨J, h, h2⟩
theorem gCS (J : L2.St → Hp → Prop) (h : ts { D with nx := J } σ H) (h2 : ∀ σ' H', J σ' H' → D.nx σ' H') : tCutS ts D σ H := ⟨J, h, h2⟩
theorem gS_AsgN (h : te σ H fun x H1 => tr D (σ.set i (some x)) H1) : tSeq (tAsg te (gName i)) tr D σ H := h
theorem gS_Asg {g : TG} (h : te σ H fun x H1 => g x σ H1 (tr D)) : tSeq (tAsg te g) tr D σ H := h
theorem gS_Par (h : t σ H fun vs H1 => ∃ v w, vs = [v, w] ∧ tr D ((σ.set i (some v)).set j (some w)) H1) : tSeq (tPar i j t) tr D σ H := h
theorem gS_Par3 (h : t σ H fun vs H1 => ∃ u v w, vs = [u, v, w] ∧ tr D (((σ.set i (some u)).set j (some v)).set l (some w)) H1) : tSeq (tPar3 i j l t) tr D σ H := h
theorem gS_Aug {ti : TIp} {x : V} (e : σ[i]? = some (some x)) (h : te σ H fun y H1 => ti x y H1 fun z H2 => tr D (σ.set i (some z)) H2) : tSeq (tAug i te ti) tr D σ H := ⟨x, e, h⟩
theorem gS_Drop (h : te σ H fun _ H1 => tr D σ H1) : tSeq (tDrop te) tr D σ H := h
theorem gS_IfS {tw : TS} (h : tt σ H fun b H1 => if b = true then ts { D with nx := tr D } σ H1 else tw { D with nx := tr D } σ H1) : tSeq (tIfS tt ts tw) tr D σ H := h
theorem gS_CS (J : L2.St → Hp → Prop) (h : ts { D with nx := J } σ H) (h2 : ∀ σ' H', J σ' H' → tr D σ' H') : tSeq (tCutS ts) tr D σ H := ⟨J, h, h2⟩
theorem gE {f bk ct : L2.St → Hp → Prop} {rt : VK} (h : f σ H) : Ends.nx ⟨f, rt, bk, ct⟩ σ H := h
theorem ne_false {b : Bool} (h : ¬ b = true) : b = false := by
  cases b with
  | true => exact (h rfl).elim
  | false => rfl
end

/-! ### sizes -/
theorem sz {n : Nat} (h : n ≤ 100000) : n ≤ sizeLine := Nat.le_trans h (by decide)
theorem szl {n : Nat} (h : n < 100000) : n < sizeLine := Nat.lt_of_lt_of_le h (by decide)
theorem sz0 : 0 ≤ sizeLine := sz (by decide)
theorem sz1 : 1 ≤ sizeLine := sz (by decide)
theorem sz2 : 2 ≤ sizeLine := sz (by decide)
theorem sz3 : 3 ≤ sizeLine := sz (by decide)
theorem sz4 : 4 ≤ sizeLine := sz (by decide)
theorem sz5 : 5 ≤ sizeLine := sz (by decide)
theorem sz6 : 6 ≤ sizeLine := sz (by decide)

/-! ### steps -/
theorem ix_eq (n : Nat) (i : Int) : ixM n i = ixN n i := rfl
theorem get_eq {α : Type} (xs : List α) (i : Int) : getM xs i = atI xs i := rfl
theorem cut_eq (xs : List V) (lo hi : Option Int) : cutV xs lo hi = cutM xs lo hi := by
  have e : ∀ n d o, HT.sIx n d o = slIx n d o := fun n d o => by cases o <;> rfl
  unfold cutV cutM
  rw [e, e]
section
variable {α β γ δ : Type} {r : R α} {G G' H : Hp} {O : Own} {K : PySem.W.Frag} {v w : V} {vs : List V} {x : α} {xs : List α} {a : Addr} {Q : VK}
theorem Al.getI {i : Int} (h : Al r G vs xs) (e : getM xs i = some x) : ∃ v, atI vs i = some v ∧ r.rel G v x := by
  unfold getM at e
  rw [← h.len] at e
  obtain ⟨j, e1, e2⟩ := bindS e
  obtain ⟨w, h1, h2⟩ := h.get e2
  refine ⟨w, ?_, h2⟩
  show (ixN vs.length i).bind _ = some w
  rw [← ix_eq, e1]
  exact h1
theorem Al.cut {lo hi : Option Int} (h : Al r G vs xs) : Al r G (cutV vs lo hi) (cutM xs lo hi) := by
  rw [cut_eq]
  unfold cutM
  rw [h.len]
  exact (h.drop _).take _
/-- xs[i] of a frozen list, tuple, list or tuple; of an owned list -/
theorem q_ixL {i : Int} (S : Sub G O H) (h : (rL K r).rel G v xs) (e : getM xs i = some x) (q : ∀ w, r.rel G w x → Q w H) : rIxL K v (.int i) H Q := by
  obtain ⟨p, vs, rfl, hs, ha⟩ := h
  obtain ⟨w, h1, h2⟩ := ha.getI e
  exact ⟨p, vs, i, w, rfl, rfl, sqL_up S.ext hs, h1, q w h2⟩
theorem q_ixT {i : Int} (S : Sub G O H) (h : (rT K r).rel G v xs) (e : getM xs i = some x) (q : ∀ w, r.rel G w x → Q w H) : rIxT K v (.int i) H Q := by
  obtain ⟨p, vs, rfl, hs, ha⟩ := h
  obtain ⟨w, h1, h2⟩ := ha.getI e
  exact ⟨p, vs, i, w, rfl, rfl, sqT_up S.ext hs, h1, q w h2⟩
theorem q_ixO {i : Int} (S : Sub G ((a, .lst vs) :: O) H) (h : Al r G vs xs) (e : getM xs i = some x) (q : ∀ w, r.rel G w x → Q w H) : rIxL K (.ref a) (.int i) H Q := by
  obtain ⟨w, h1, h2⟩ := h.getI e
  exact ⟨a, vs, i, w, rfl, rfl, .inl (.inl S.head), h1, q w h2⟩
/-- len -/
theorem q_lenL {y : V} (S : Sub G O H) (h : (rL K r).rel G v xs) (q : Q (.int (xs.length : Int)) H) : rLenM K [v] H Q := by
  obtain ⟨p, vs, rfl, hs, ha⟩ := h
  refine ⟨p, vs, rfl, .inl (sqL_up S.ext hs), ?_⟩
  rw [ha.len]; exact q
theorem q_lenT (S : Sub G O H) (h : (rT K r).rel G v xs) (q : Q (.int (xs.length : Int)) H) : rLenM K [v] H Q := by
  obtain ⟨p, vs, rfl, hs, ha⟩ := h
  refine ⟨p, vs, rfl, .inr (sqT_up S.ext hs), ?_⟩
  rw [ha.len]; exact q
theorem q_lenO (S : Sub G ((a, .lst vs) :: O) H) (h : Al r G vs xs) (q : Q (.int (xs.length : Int)) H) : rLenM K [V.ref a] H Q := by
  refine ⟨a, vs, rfl, .inl (.inl (.inl S.head)), ?_⟩
  rw [h.len]; exact q
end
/-! ### further steps -/
section
variable {α β γ δ : Type} {r : R α} {G G' H : Hp} {O : Own} {K : PySem.W.Frag} {v w : V} {vs : List V} {x : α} {xs ys : List α} {a : Addr} {Q : VK}
theorem q_mul {i j k : Int} (h : mulM i j = some k) (q : Q (.int k) H) : rI CMul (fun i j => .int (i * j)) (.int i) (.int j) H Q := by
  obtain ⟨c, e⟩ := mulM_some h
  exact ⟨i, j, rfl, rfl, c, by show Q (.int (i * j)) H; rw [e]; exact q⟩
theorem q_fdiv {i j k : Int} (h : fdivM i j = some k) (q : Q (.int k) H) : rI CDivW (fun i j => .int (i / j)) (.int i) (.int j) H Q := by
  obtain ⟨c, e⟩ := fdivM_some h
  exact ⟨i, j, rfl, rfl, c, by show Q (.int (i / j)) H; rw [e]; exact q⟩
theorem q_mod {i j k : Int} (h : modM i j = some k) (q : Q (.int k) H) : rI (fun _ j => 0 < j) (fun i j => .int (i % j)) (.int i) (.int j) H Q := by
  obtain ⟨c, e⟩ := modM_some h
  exact ⟨i, j, rfl, rfl, c, by show Q (.int (i % j)) H; rw [e]; exact q⟩
/-- xs.append(e), the first owned list -/
theorem q_app (S : Sub G ((a, .lst vs) :: O) H) (h : Al r G vs xs) (hv : r.rel G v x) (e : appM xs x = some ys) (q : ∀ H' w, Sub G ((a, .lst w) :: O) H' → Al r G w ys → Q .non H') : rAppend (.ref a) [v] H Q := by
  obtain ⟨c, e⟩ := appM_some e
  refine ⟨a, vs, v, rfl, rfl, S.head, szl (by rw [h.len]; exact c), q _ _ S.wr ?_⟩
  rw [← e]
  exact h.app ⟨hv, True.intro⟩
/-- xs[i] = e -/
theorem q_setL {i : Int} {Q : Hp → Prop} (S : Sub G ((a, .lst vs) :: O) H) (h : Al r G vs xs) (hv : r.rel G v x) (e : setM xs i x = some ys) (q : ∀ H' ws, Sub G ((a, .lst ws) :: O) H' → Al r G ws ys → Q H') : rSetL (.ref a) (.int i) v H Q := by
  obtain ⟨j, e1, e2⟩ := setM_some e
  rw [← h.len] at e1
  refine ⟨a, vs, i, j, rfl, rfl, S.head, e1, q _ _ S.wr ?_⟩
  rw [← e2]
  exact h.set j hv
/-- slices: a new list (frozen at once) -/
theorem q_slL {lo hi : Option Int} (S : Sub G O H) (h : (rL K r).rel G v xs) (q : ∀ w G' H', Ext G G' → Sub G' O H' → (rL K r).rel G' w (cutM xs lo hi) → Q w H') : rSlL K v lo hi H Q := by
  obtain ⟨p, vs, rfl, hs, ha⟩ := h
  refine ⟨p, vs, rfl, sqL_up S.ext hs, fun t ht => q _ _ _ (S.extNew ht (.lst (cutV vs lo hi))) (S.new ht) ⟨t, _, rfl, .inl (.inl upd_same), ?_⟩⟩
  exact (ha.up (S.extNew ht _)).cut
/-- a list display, owned -/
theorem q_lst (S : Sub G O H) (h : Al r G vs xs) (hz : vs.length ≤ 100000) (q : ∀ p H' w, Sub G ((p, .lst w) :: O) H' → Al r G w xs → Q (.ref p) H') : mkLst vs H Q :=
  ⟨sz hz, fun p hp => q p _ vs (S.newOwn hp) h⟩
/-- tuple(xs) of an owned list, of a list, of a list or tuple -/
theorem q_tupO (S : Sub G ((a, .lst vs) :: O) H) (h : Al r G vs xs) (q : ∀ u G' H', Ext G G' → Sub G' ((a, .lst vs) :: O) H' → (rT K r).rel G' u xs → Q u H') :
    rTupOf K [V.ref a] H Q :=
  ⟨a, vs, rfl, .inl ⟨.inl (.inl S.head), fun l hl => q _ _ _ (S.extNew hl _) (S.new hl) ⟨l, vs, rfl, .inl (.inl upd_same), h.up (S.extNew hl _)⟩⟩⟩
theorem q_tupL (S : Sub G O H) (h : (rL K r).rel G v xs) (q : ∀ u G' H', Ext G G' → Sub G' O H' → (rT K r).rel G' u xs → Q u H') :
    rTupOf K [v] H Q := by
  obtain ⟨p, vs, rfl, hs, ha⟩ := h
  exact ⟨p, vs, rfl, .inl ⟨sqL_up S.ext hs, fun l hl => q _ _ _ (S.extNew hl _) (S.new hl) ⟨l, vs, rfl, .inl (.inl upd_same), ha.up (S.extNew hl _)⟩⟩⟩
theorem q_tupT (S : Sub G O H) (h : (rT K r).rel G v xs) (q : Q v H) :
    rTupOf K [v] H Q := by
  obtain ⟨p, vs, rfl, hs, ha⟩ := h
  exact ⟨p, vs, rfl, .inr ⟨sqT_up S.ext hs, q⟩⟩
/-- list(xs): a new list, frozen or owned -/
theorem q_listQ (S : Sub G O H) (h : (rQ K r).rel G v xs) (q : ∀ u G' H', Ext G G' → Sub G' O H' → (rL K r).rel G' u xs → Q u H') :
    rListOf K [v] H Q := by
  obtain ⟨p, vs, rfl, hs, ha⟩ := h
  exact ⟨p, vs, rfl, hs.imp (sqL_up S.ext) (sqT_up S.ext), fun l hl => q _ _ _ (S.extNew hl _) (S.new hl) ⟨l, vs, rfl, .inl (.inl upd_same), ha.up (S.extNew hl _)⟩⟩
theorem q_listQo (S : Sub G O H) (h : (rQ K r).rel G v xs) (q : ∀ p vs H', Sub G ((p, .lst vs) :: O) H' → Al r G vs xs → Q (.ref p) H') :
    rListOf K [v] H Q := by
  obtain ⟨p, vs, rfl, hs, ha⟩ := h
  exact ⟨p, vs, rfl, hs.imp (sqL_up S.ext) (sqT_up S.ext), fun l hl => q l vs _ (S.newOwn hl) ha⟩
theorem rL_Q (h : (rL K r).rel G v xs) : (rQ K r).rel G v xs := let ⟨p, vs, e, hs, ha⟩ := h; ⟨p, vs, e, .inl hs, ha⟩
theorem rT_Q (h : (rT K r).rel G v xs) : (rQ K r).rel G v xs := let ⟨p, vs, e, hs, ha⟩ := h; ⟨p, vs, e, .inr hs, ha⟩
/-- an owned list, frozen -/
theorem rL_frz (S : Sub G ((a, .lst vs) :: O) H) (h : Al r G vs xs) : (rL K r).rel (upd G a (.lst vs)) (.ref a) xs := ⟨a, vs, rfl, .inl (.inl upd_same), h.up S.extFrz⟩
theorem frz_L (S : Sub G ((a, .lst vs) :: O) H) (h : Al r G vs xs) : ∃ G', Ext G G' ∧ Sub G' O H ∧ (rL K r).rel G' (.ref a) xs := ⟨_, S.extFrz, S.frz, rL_frz S h⟩
/-- an owned list as the heap has it now -/
theorem rL_own (S : Sub G ((a, .lst vs) :: O) H) (h : Al r G vs xs) : (rL K r).rel H (.ref a) xs := ⟨a, vs, rfl, .inl (.inl S.head), h.up S.ext⟩

/-! types, for isinstance -/
theorem ty_L (h : (rL K r).rel H v xs) : TyX K H v (.type "list") := by
  obtain ⟨p, vs, rfl, hs, _⟩ := h
  rcases hs with (hs | ⟨o, hs⟩) | ⟨o, its, n, h1, h2, _⟩
  · exact .base (.lst hs)
  · exact .base (.frz hs)
  · exact .kList h1 h2
theorem ty_sqT {p : Addr} (hs : SqT K H p vs) : TyX K H (.ref p) (.type "tuple") := by
  rcases hs with (hs | ⟨o, hs⟩) | ⟨o, its, n, h1, h2, _⟩
  · exact .base (.tup hs)
  · exact .fTuple hs
  · exact .kTuple h1 h2
theorem ty_T (h : (rT K r).rel H v xs) : TyX K H v (.type "tuple") := by
  obtain ⟨p, vs, rfl, hs, _⟩ := h
  exact ty_sqT hs
theorem ty_I (i : Int) : TyX K H (.int i) (.type "int") := .base (.int i)
theorem ty_B (b : Bool) : TyX K H (.bl b) (.type "bool") := .base (.bl b)
theorem ty_S (b : Str) : TyX K H (.str b) (.type "str") := .base (.str b)
theorem ty_N : TyX K H .non (.type "NoneType") := .base .non
theorem q_isi {t c : String} {b : Bool} (h : TyX K H v (.type t)) (e : kitB t c = some b) (q : Q (.bl b) H) : rIsi K [v, .ty c] H Q := ⟨v, .ty c, .type t, .type c, b, rfl, .ty c, h, kit_ty e, q⟩
end

/-! ### data and == -/
structure RD (K : PySem.W.Frag) (α : Type) [DecidableEq α] where
  r : R α
  enc : α → PyData
  dep : Nat
  ok : α → Bool
  lay : ∀ x, ok x = true → (enc x).canLay0 = true
  dpt : ∀ x, (enc x).depth ≤ dep
  dp : ∀ {H : Hp} {v : V} {x : α}, r.rel H v x → Dp K H v (enc x)
  eqv : ∀ x y, PyData.eqv (enc x) (enc y) = decide (x = y)
section
variable {K : PySem.W.Frag} {α β γ : Type} [DecidableEq α] [DecidableEq β] [DecidableEq γ]
def dInt : RD K Int := ⟨rInt, .int, 1, fun _ => true, fun _ _ => rfl, fun _ => by simp [PyData.depth], fun {H v x} h => by cases (show v = .int x from h); exact .int x, fun x y => rfl⟩
def dBool : RD K Bool := ⟨rBool, .bool, 1, fun _ => true, fun _ _ => rfl, fun _ => by simp [PyData.depth], fun {H v x} h => by cases (show v = .bl x from h); exact .bl x, fun x y => by cases x <;> cases y <;> rfl⟩
def dStr : RD K Str := ⟨rStr, .str, 1, PyData.strOk, fun _ h => h, fun _ => by simp [PyData.depth], fun {H v x} h => by cases (show v = .str x from h); exact .str x, fun x y => by
  show (x == y) = decide (x = y)
  by_cases e : x = y
  · subst e; simp
  · rw [decide_eq_false e]; exact beq_eq_false_iff_ne.mpr e⟩
theorem Al.dps {r : R α} {enc : α → PyData} {H : Hp} (hd : ∀ {v : V} {x : α}, r.rel H v x → Dp K H v (enc x)) : ∀ {vs : List V} {xs : List α}, Al r H vs xs → DpAll K H vs (xs.map enc)
  | [], [], _ => .nil
  | _ :: _, _ :: _, h => .cons (hd h.1) (Al.dps hd h.2)
  | [], _ :: _, h => h.elim
  | _ :: _, [], h => h.elim
theorem eqvs {enc : α → PyData} (he : ∀ x y, PyData.eqv (enc x) (enc y) = decide (x = y)) : ∀ xs ys : List α, PyData.eqvAll (xs.map enc) (ys.map enc) = decide (xs = ys)
  | [], [] => rfl
  | [], _ :: _ => rfl
  | _ :: _, [] => rfl
  | x :: xs, y :: ys => by
    show (PyData.eqv (enc x) (enc y) && PyData.eqvAll (xs.map enc) (ys.map enc)) = _
    rw [he, eqvs he xs ys]
    by_cases h1 : x = y
    · subst h1
      by_cases h2 : xs = ys
      · subst h2; simp
      · simp [h2]
    · simp [h1]
theorem lays {enc : α → PyData} {ok : α → Bool} (he : ∀ x, ok x = true → (enc x).canLay0 = true) : ∀ xs : List α, xs.all ok = true → PyData.canLayAll0 (xs.map enc) = true
  | [], _ => rfl
  | x :: xs, h => by
    rw [List.all_cons, Bool.and_eq_true] at h
    show (PyData.canLay0 (enc x) && PyData.canLayAll0 (xs.map enc)) = true
    rw [he x h.1, lays he xs h.2]
    rfl
theorem deps {enc : α → PyData} {n : Nat} (he : ∀ x, (enc x).depth ≤ n) : ∀ xs : List α, PyData.depthAll (xs.map enc) ≤ n
  | [] => by simp [PyData.depthAll]
  | x :: xs => by
    have h1 := he x
    have h2 := deps he xs
    simp only [List.map_cons, PyData.depthAll]
    omega
def dL (d : RD K α) : RD K (List α) := ⟨rL K d.r, fun xs => .list (xs.map d.enc), d.dep + 1, fun xs => xs.all d.ok, fun xs h => lays d.lay xs h, fun xs => by have := deps d.dpt xs; simp only [PyData.depth]; omega,
  fun {H v x} h => by obtain ⟨p, vs, rfl, hs, ha⟩ := h; exact .lst hs (ha.dps d.dp), fun x y => eqvs d.eqv x y⟩
def dT (d : RD K α) : RD K (List α) := ⟨rT K d.r, fun xs => .tuple (xs.map d.enc), d.dep + 1, fun xs => xs.all d.ok, fun xs h => lays d.lay xs h, fun xs => by have := deps d.dpt xs; simp only [PyData.depth]; omega,
  fun {H v x} h => by obtain ⟨p, vs, rfl, hs, ha⟩ := h; exact .tup hs (ha.dps d.dp), fun x y => eqvs d.eqv x y⟩
theorem RD.shaped (d : RD K α) (hd : d.dep ≤ 64) {x : α} (h : d.ok x = true) : SeqAt.shaped (d.enc x) = true := by
  unfold SeqAt.shaped
  rw [d.lay x h, decide_eq_true (Nat.le_trans (d.dpt x) hd)]
  rfl
variable {G H : Hp} {O : Own} {v w : V} {x y : α} {Q : VK}
/-- x == y of data: the reps at the heap as it stands -/
theorem q_eqD (d : RD K α) (hd : d.dep ≤ 64) (h1 : d.r.rel H v x) (h2 : d.r.rel H w y) (o1 : d.ok x = true) (o2 : d.ok y = true) (q : Q (.bl (decide (x = y))) H) : rEqD K v w H Q :=
  ⟨d.enc x, d.enc y, d.dp h1, d.dp h2, d.shaped hd o1, d.shaped hd o2, by rw [d.eqv]; exact q⟩
theorem q_neD (d : RD K α) (hd : d.dep ≤ 64) (h1 : d.r.rel H v x) (h2 : d.r.rel H w y) (o1 : d.ok x = true) (o2 : d.ok y = true) (q : Q (.bl (!decide (x = y))) H) : rNeD K v w H Q :=
  ⟨d.enc x, d.enc y, d.dp h1, d.dp h2, d.shaped hd o1, d.shaped hd o2, by rw [d.eqv]; exact q⟩
theorem okI : ∀ x, (dInt (K := K)).ok x = true := fun _ => rfl
theorem okB : ∀ x, (dBool (K := K)).ok x = true := fun _ => rfl
theorem okL {d : RD K α} (h : ∀ x, d.ok x = true) : ∀ xs, (dL d).ok xs = true := fun xs => List.all_eq_true.mpr fun x _ => h x
theorem okT {d : RD K α} (h : ∀ x, d.ok x = true) : ∀ xs, (dT d).ok xs = true := fun xs => List.all_eq_true.mpr fun x _ => h x
theorem ok_all {ok : α → Bool} (h : ∀ x, ok x = true) (xs : List α) : xs.all ok = true := List.all_eq_true.mpr fun x _ => h x
end

/-! ### loops -/
def PvL {α σ ρ : Type} (f : σ → α → Option (Bf σ ρ)) (xs : List α) (res : Fl σ ρ) (I : σ → L2.St → Hp → Prop) (i : Nat) : L2.St → Hp → Prop := fun σ' H => ∃ s, I s σ' H ∧ forL f (xs.drop i) s = some res
section
variable {α β τ ρ : Type} {J : It} {n : Nat} {GW : Hp → Prop} {Y : Nat → Hp → V → Hp → Prop} {f : τ → α → Option (Bf τ ρ)} {xs : List α} {s0 : τ} {res : Fl τ ρ} {I : τ → L2.St → Hp → Prop} {g : TG} {tb : TS} {D : Ends} {σ : L2.St} {H : Hp}
theorem lp_it (w : Walk J n GW Y) (hn : xs.length = n) (hm : forL f xs s0 = some res) (I : τ → L2.St → Hp → Prop) (h0 : I s0 σ H) (hG : ∀ s σ H, I s σ H → GW H)
    (hs : ∀ (i : Nat) (x : α) (s : τ) (b : Bf τ ρ), xs[i]? = some x → f s x = some b → conL f (xs.drop (i + 1)) b = some res → ∀ v σ H H', I s σ H → Y i H v H' →
      g v σ H' fun σ2 H2 => tb { D with nx := PvL f xs res I (i + 1), ct := PvL f xs res I (i + 1), bk := D.nx } σ2 H2)
    (hd : ∀ s σ H, res = .nx s → I s σ H → D.nx σ H) :
    LpW g tb D σ J H := by
  refine for_it w (PvL f xs res I) ⟨s0, h0, hm⟩ (fun i σ H _ ⟨s, hI, _⟩ => hG s σ H hI) (fun i v σ H H' hi ⟨s, hI, hf⟩ hy => ?_) fun σ H ⟨s, hI, hf⟩ => ?_
  · have hx : xs[i]? = some xs[i] := List.getElem?_eq_getElem (by omega)
    obtain ⟨b, hb, hr⟩ := forL_drop hx hf
    exact hs i _ s b hx hb hr v σ H H' hI hy
  · rw [← hn, List.drop_length] at hf
    exact hd s σ H (Option.some.inj hf).symm hI
variable {K : PySem.W.Frag} {G : Hp} {O : Own} {r : R α} {v : V} {vs : List V} {a : Addr}
theorem Al.at {i : Nat} {x : α} {w : V} (h : Al r G vs xs) (hx : xs[i]? = some x) (hw : vs[i]? = some w) : r.rel G w x := by
  obtain ⟨w', h1, h2⟩ := h.get hx
  rw [hw] at h1; cases h1; exact h2
/-- for x in a frozen list -/
theorem lp_L (S : Sub G O H) (h : (rL K r).rel G v xs) (hm : forL f xs s0 = some res) (I : τ → L2.St → Hp → Prop) (h0 : I s0 σ H) (hG : ∀ s σ H, I s σ H → Ext G H)
    (hs : ∀ (i : Nat) (x : α) (s : τ) (b : Bf τ ρ), f s x = some b → conL f (xs.drop (i + 1)) b = some res → ∀ w σ H, I s σ H → r.rel G w x →
      g w σ H fun σ2 H2 => tb { D with nx := PvL f xs res I (i + 1), ct := PvL f xs res I (i + 1), bk := D.nx } σ2 H2)
    (hd : ∀ s σ H, res = .nx s → I s σ H → D.nx σ H) :
    itL K v H (LpW g tb D σ) := by
  obtain ⟨p, vs, rfl, hq, ha⟩ := h
  refine ⟨p, rfl, ⟨vs, sqL_up S.ext hq⟩, lp_it (walk_list (xs := vs)) ha.len.symm hm I h0 (fun s σ H hI => sqL_up (hG s σ H hI) hq) (fun i x s b hx hb hr w σ H H' hI hY => ?_) hd⟩
  obtain ⟨rfl, hw⟩ := hY
  exact hs i x s b hb hr w σ _ hI (ha.at hx hw)
/-- for x in a frozen tuple -/
theorem lp_T (S : Sub G O H) (h : (rT K r).rel G v xs) (hm : forL f xs s0 = some res) (I : τ → L2.St → Hp → Prop) (h0 : I s0 σ H) (hG : ∀ s σ H, I s σ H → Ext G H)
    (hs : ∀ (i : Nat) (x : α) (s : τ) (b : Bf τ ρ), f s x = some b → conL f (xs.drop (i + 1)) b = some res → ∀ w σ H, I s σ H → r.rel G w x →
      g w σ H fun σ2 H2 => tb { D with nx := PvL f xs res I (i + 1), ct := PvL f xs res I (i + 1), bk := D.nx } σ2 H2)
    (hd : ∀ s σ H, res = .nx s → I s σ H → D.nx σ H) :
    itT K v H (LpW g tb D σ) := by
  obtain ⟨p, vs, rfl, hq, ha⟩ := h
  refine ⟨p, rfl, ⟨vs, sqT_up S.ext hq⟩, lp_it (walk_tup (xs := vs)) ha.len.symm hm I h0 (fun s σ H hI => sqT_up (hG s σ H hI) hq) (fun i x s b hx hb hr w σ H H' hI hY => ?_) hd⟩
  obtain ⟨rfl, hw⟩ := hY
  exact hs i x s b hb hr w σ _ hI (ha.at hx hw)
theorem rng_at {n i k : Nat} (h : (List.range n)[i]? = some k) : k = i := by
  obtain ⟨h1, h2⟩ := List.getElem?_eq_some_iff.mp h
  rw [List.getElem_range] at h2
  exact h2.symm
/-- for i in range(n) -/
theorem lp_R {f : τ → Int → Option (Bf τ ρ)} {xs : List Int} {n : Int} (hx : rngM n = some xs) (hm : forL f xs s0 = some res) (I : τ → L2.St → Hp → Prop) (h0 : I s0 σ H)
    (hs : ∀ (i : Nat) (x : Int) (s : τ) (b : Bf τ ρ), f s x = some b → conL f (xs.drop (i + 1)) b = some res → ∀ σ H, I s σ H →
      g (.int x) σ H fun σ2 H2 => tb { D with nx := PvL f xs res I (i + 1), ct := PvL f xs res I (i + 1), bk := D.nx } σ2 H2)
    (hd : ∀ s σ H, res = .nx s → I s σ H → D.nx σ H) :
    itR [V.int n] H (LpW g tb D σ) := by
  obtain ⟨c, rfl⟩ := rngM_some hx
  refine ⟨n, rfl, c.1, c.2, lp_it walk_range (by simp) hm I h0 (fun _ _ _ _ => True.intro) (fun i x s b hx hb hr w σ H H' hI hY => ?_) hd⟩
  obtain ⟨rfl, hw⟩ := hY
  have e : (0 : Int) + (i : Nat) = x := by
    rw [List.getElem?_map] at hx
    obtain ⟨k, h1, h2⟩ := Option.map_eq_some_iff.mp hx
    have := rng_at h1
    omega
  have e2 : w = .int x := by rw [hw, ← e]
  rw [e2]
  exact hs i x s b hb hr σ _ hI
theorem lp_R2 {f : τ → Int → Option (Bf τ ρ)} {xs : List Int} {lo n : Int} (hx : rng2M lo n = some xs) (hm : forL f xs s0 = some res) (I : τ → L2.St → Hp → Prop) (h0 : I s0 σ H)
    (hs : ∀ (i : Nat) (x : Int) (s : τ) (b : Bf τ ρ), f s x = some b → conL f (xs.drop (i + 1)) b = some res → ∀ σ H, I s σ H →
      g (.int x) σ H fun σ2 H2 => tb { D with nx := PvL f xs res I (i + 1), ct := PvL f xs res I (i + 1), bk := D.nx } σ2 H2)
    (hd : ∀ s σ H, res = .nx s → I s σ H → D.nx σ H) :
    itR2 [V.int lo, V.int n] H (LpW g tb D σ) := by
  obtain ⟨c, rfl⟩ := rng2M_some hx
  refine ⟨lo, n, rfl, c, lp_it walk_range (by simp) hm I h0 (fun _ _ _ _ => True.intro) (fun i x s b hx hb hr w σ H H' hI hY => ?_) hd⟩
  obtain ⟨rfl, hw⟩ := hY
  have e : lo + (i : Nat) = x := by
    rw [List.getElem?_map] at hx
    obtain ⟨k, h1, h2⟩ := Option.map_eq_some_iff.mp hx
    have := rng_at h1
    omega
  have e2 : w = .int x := by rw [hw, ← e]
  rw [e2]
  exact hs i x s b hb hr σ _ hI
/-- for i, x in enumerate(a list or a tuple) -/
theorem walk_enumT {xs : List V} : Walk (IteT K a) xs.length (fun H => SqT K H a xs) (YPair (fun i => some (.int (i : Nat))) (fun i => xs[i]?)) := by
  refine ⟨fun i _ hi q => ⟨xs, xs[i], q, by simp [hi]⟩, fun _ q => ⟨xs, q, rfl⟩, fun i H v H' _ q y => ?_⟩
  obtain ⟨T, x, h1, h2, h3, h4⟩ := y
  exact ⟨T, .int (i : Nat), x, h1, h2, h3, rfl, h4 xs q⟩
theorem lp_Eit {f : τ → Int × α → Option (Bf τ ρ)} {i1 i2 : Nat} {J : It} {vs : List V} (w : Walk J vs.length GW (YPair (fun i => some (.int (i : Nat))) (fun i => vs[i]?))) (ha : Al r G vs xs) (hm : forL f (enumM xs) s0 = some res) (I : τ → L2.St → Hp → Prop) (h0 : I s0 σ H) (hG : ∀ s σ H, I s σ H → GW H)
    (hs : ∀ (i : Nat) (x : α) (s : τ) (b : Bf τ ρ), f s ((i : Int), x) = some b → conL f ((enumM xs).drop (i + 1)) b = some res → ∀ w σ H H', I s σ H → (∀ G O, Sub G O H → Sub G O H') → r.rel G w x →
      tb { D with nx := PvL f (enumM xs) res I (i + 1), ct := PvL f (enumM xs) res I (i + 1), bk := D.nx } ((σ.set i1 (some (.int (i : Int)))).set i2 (some w)) H')
    (hd : ∀ s σ H, res = .nx s → I s σ H → D.nx σ H) :
    LpW (gTup K 2 (gCons (gName i1) (gCons (gName i2) gNil))) tb D σ J H := by
  refine lp_it w (by rw [enumM_length, ha.len]) hm I h0 hG (fun i y s b hx hb hr v σ H H' hI hY => ?_) hd
  rw [enumM_get] at hx
  obtain ⟨x, hx2, rfl⟩ := Option.map_eq_some_iff.mp hx
  obtain ⟨T, k, w, rfl, hT, rfl, hk, hw⟩ := hY
  cases hk
  exact ⟨T, _, rfl, .inl (.inl upd_same), rfl, _, _, rfl, _, _, rfl, rfl, hs i x s b hb hr w σ H _ hI (fun G O S => S.junk hT) (ha.at hx2 hw)⟩
/-- for i, x in enumerate(xs): a frozen list or tuple -/
theorem lp_EQ {f : τ → Int × α → Option (Bf τ ρ)} {i1 i2 : Nat} (S : Sub G O H) (h : (rQ K r).rel G v xs) (hm : forL f (enumM xs) s0 = some res) (I : τ → L2.St → Hp → Prop) (h0 : I s0 σ H) (hG : ∀ s σ H, I s σ H → Ext G H)
    (hs : ∀ (i : Nat) (x : α) (s : τ) (b : Bf τ ρ), f s ((i : Int), x) = some b → conL f ((enumM xs).drop (i + 1)) b = some res → ∀ w σ H H', I s σ H → (∀ G O, Sub G O H → Sub G O H') → r.rel G w x →
      tb { D with nx := PvL f (enumM xs) res I (i + 1), ct := PvL f (enumM xs) res I (i + 1), bk := D.nx } ((σ.set i1 (some (.int (i : Int)))).set i2 (some w)) H')
    (hd : ∀ s σ H, res = .nx s → I s σ H → D.nx σ H) :
    itE K [v] H (LpW (gTup K 2 (gCons (gName i1) (gCons (gName i2) gNil))) tb D σ) := by
  obtain ⟨p, vs, rfl, hq, ha⟩ := h
  refine ⟨p, vs, rfl, ?_⟩
  rcases hq with hq | hq
  · exact .inl ⟨sqL_up S.ext hq, lp_Eit walk_enum ha hm I h0 (fun s σ H hI => sqL_up (hG s σ H hI) hq) hs hd⟩
  · exact .inr ⟨sqT_up S.ext hq, lp_Eit walk_enumT ha hm I h0 (fun s σ H hI => sqT_up (hG s σ H hI) hq) hs hd⟩
end
end Mr

set_option Elab.async false
set_option linter.all false
set_option maxRecDepth 100000
set_option maxHeartbeats 2000000
/-! MirT: tuples of fixed length (printed by wip/gen/tup.py). -/
namespace Mr
open PySem PySem.Spec PyProof.Rows L2
section
variable {α : Type} {β : Type} {K : PySem.W.Frag} {G H : Hp} {O : Own} {v : V} {Q : VK}
def rP2 (K : PySem.W.Frag) (r0 : R α) (r1 : R β) : R (α × β) := ⟨fun G v x => ∃ p v0 v1, v = .ref p ∧ SqT K G p [v0, v1] ∧ r0.rel G v0 x.1 ∧ r1.rel G v1 x.2, fun e ⟨p, v0, v1, hv, hs, h0, h1⟩ => ⟨p, v0, v1, hv, sqT_up e hs, r0.mono e h0, r1.mono e h1⟩⟩
theorem q_tup2 {r0 : R α} {r1 : R β} {v0 v1 : V} {x0 : α} {x1 : β} (S : Sub G O H) (h0 : r0.rel G v0 x0) (h1 : r1.rel G v1 x1) (q : ∀ u G' H', Ext G G' → Sub G' O H' → (rP2 K r0 r1).rel G' u (x0, x1) → Q u H') : mkTup [v0, v1] H Q :=
  ⟨sz (by show 2 ≤ 100000; decide), fun p hp => q _ _ _ (S.extNew hp _) (S.new hp) ⟨p, v0, v1, rfl, .inl (.inl upd_same), r0.mono (S.extNew hp _) h0, r1.mono (S.extNew hp _) h1⟩⟩
theorem q_p2_0 {r0 : R α} {r1 : R β} {y : α × β} (S : Sub G O H) (h : (rP2 K r0 r1).rel G v y) (q : ∀ w, r0.rel G w y.1 → Q w H) : rIxT K v (.int 0) H Q := by
  obtain ⟨p, v0, v1, rfl, hs, h0, h1⟩ := h
  exact ⟨p, _, 0, v0, rfl, rfl, sqT_up S.ext hs, rfl, q v0 h0⟩
theorem q_p2_1 {r0 : R α} {r1 : R β} {y : α × β} (S : Sub G O H) (h : (rP2 K r0 r1).rel G v y) (q : ∀ w, r1.rel G w y.2 → Q w H) : rIxT K v (.int 1) H Q := by
  obtain ⟨p, v0, v1, rfl, hs, h0, h1⟩ := h
  exact ⟨p, _, 1, v1, rfl, rfl, sqT_up S.ext hs, rfl, q v1 h1⟩
theorem q_len2 {r0 : R α} {r1 : R β} {y : α × β} (S : Sub G O H) (h : (rP2 K r0 r1).rel G v y) (q : Q (.int 2) H) : rLenM K [v] H Q := by
  obtain ⟨p, v0, v1, rfl, hs, _⟩ := h
  exact ⟨p, _, rfl, .inr (sqT_up S.ext hs), q⟩
theorem ty_P2 {r0 : R α} {r1 : R β} {y : α × β} (h : (rP2 K r0 r1).rel H v y) : TyX K H v (.type "tuple") := by
  obtain ⟨p, v0, v1, rfl, hs, _⟩ := h
  exact ty_sqT hs
theorem q_gt2 {r0 : R α} {r1 : R β} {y : α × β} {σ : L2.St} {i0 i1 : Nat} {QS : L2.St → Hp → Prop} (S : Sub G O H) (h : (rP2 K r0 r1).rel G v y) (q : ∀ v0 v1, r0.rel G v0 y.1 → r1.rel G v1 y.2 → QS ((σ.set i0 (some v0)).set i1 (some v1)) H) : gTup K 2 (gCons (gName i0) (gCons (gName i1) gNil)) v σ H QS := by
  obtain ⟨p, v0, v1, rfl, hs, h0, h1⟩ := h
  exact ⟨p, _, rfl, sqT_up S.ext hs, rfl, _, _, rfl, _, _, rfl, rfl, q v0 v1 h0 h1⟩
variable [DecidableEq α] [DecidableEq β]
def dP2 (d0 : RD K α) (d1 : RD K β) : RD K (α × β) := ⟨rP2 K d0.r d1.r, fun x => .tuple [d0.enc x.1, d1.enc x.2], d0.dep + d1.dep + 1, fun x => d0.ok x.1 && (d1.ok x.2),
  fun x h => by
    simp only [Bool.and_eq_true] at h
    show (PyData.canLay0 _ && (PyData.canLay0 _ && (true))) = true
    rw [d0.lay _ h.1, d1.lay _ h.2]; rfl,
  fun x => by
    have := d0.dpt x.1
    have := d1.dpt x.2
    simp only [PyData.depth, PyData.depthAll]; omega,
  fun {H v x} h => by
    obtain ⟨p, v0, v1, rfl, hs, h0, h1⟩ := h
    exact .tup hs (.cons (d0.dp h0) (.cons (d1.dp h1) (.nil))),
  fun x y => by
    obtain ⟨a0, a1⟩ := x
    obtain ⟨b0, b1⟩ := y
    show (PyData.eqv _ _ && (PyData.eqv _ _ && (true))) = _
    rw [d0.eqv, d1.eqv]
    simp only [Prod.mk.injEq, Bool.and_true, Bool.decide_and]⟩
theorem okP2 {d0 : RD K α} {d1 : RD K β} (h0 : ∀ x, d0.ok x = true) (h1 : ∀ x, d1.ok x = true) : ∀ x, (dP2 d0 d1).ok x = true := fun x => by
  show (d0.ok x.1 && (d1.ok x.2)) = true
  rw [h0, h1]; rfl
end
section
variable {α : Type} {β : Type} {γ : Type} {K : PySem.W.Frag} {G H : Hp} {O : Own} {v : V} {Q : VK}
def rP3 (K : PySem.W.Frag) (r0 : R α) (r1 : R β) (r2 : R γ) : R (α × β × γ) := ⟨fun G v x => ∃ p v0 v1 v2, v = .ref p ∧ SqT K G p [v0, v1, v2] ∧ r0.rel G v0 x.1 ∧ r1.rel G v1 x.2.1 ∧ r2.rel G v2 x.2.2, fun e ⟨p, v0, v1, v2, hv, hs, h0, h1, h2⟩ => ⟨p, v0, v1, v2, hv, sqT_up e hs, r0.mono e h0, r1.mono e h1, r2.mono e h2⟩⟩
theorem q_tup3 {r0 : R α} {r1 : R β} {r2 : R γ} {v0 v1 v2 : V} {x0 : α} {x1 : β} {x2 : γ} (S : Sub G O H) (h0 : r0.rel G v0 x0) (h1 : r1.rel G v1 x1) (h2 : r2.rel G v2 x2) (q : ∀ u G' H', Ext G G' → Sub G' O H' → (rP3 K r0 r1 r2).rel G' u (x0, x1, x2) → Q u H') : mkTup [v0, v1, v2] H Q :=
  ⟨sz (by show 3 ≤ 100000; decide), fun p hp => q _ _ _ (S.extNew hp _) (S.new hp) ⟨p, v0, v1, v2, rfl, .inl (.inl upd_same), r0.mono (S.extNew hp _) h0, r1.mono (S.extNew hp _) h1, r2.mono (S.extNew hp _) h2⟩⟩
theorem q_p3_0 {r0 : R α} {r1 : R β} {r2 : R γ} {y : α × β × γ} (S : Sub G O H) (h : (rP3 K r0 r1 r2).rel G v y) (q : ∀ w, r0.rel G w y.1 → Q w H) : rIxT K v (.int 0) H Q := by
  obtain ⟨p, v0, v1, v2, rfl, hs, h0, h1, h2⟩ := h
  exact ⟨p, _, 0, v0, rfl, rfl, sqT_up S.ext hs, rfl, q v0 h0⟩
theorem q_p3_1 {r0 : R α} {r1 : R β} {r2 : R γ} {y : α × β × γ} (S : Sub G O H) (h : (rP3 K r0 r1 r2).rel G v y) (q : ∀ w, r1.rel G w y.2.1 → Q w H) : rIxT K v (.int 1) H Q := by
  obtain ⟨p, v0, v1, v2, rfl, hs, h0, h1, h2⟩ := h
  exact ⟨p, _, 1, v1, rfl, rfl, sqT_up S.ext hs, rfl, q v1 h1⟩
theorem q_p3_2 {r0 : R α} {r1 : R β} {r2 : R γ} {y : α × β × γ} (S : Sub G O H) (h : (rP3 K r0 r1 r2).rel G v y) (q : ∀ w, r2.rel G w y.2.2 → Q w H) : rIxT K v (.int 2) H Q := by
  obtain ⟨p, v0, v1, v2, rfl, hs, h0, h1, h2⟩ := h
  exact ⟨p, _, 2, v2, rfl, rfl, sqT_up S.ext hs, rfl, q v2 h2⟩
theorem q_len3 {r0 : R α} {r1 : R β} {r2 : R γ} {y : α × β × γ} (S : Sub G O H) (h : (rP3 K r0 r1 r2).rel G v y) (q : Q (.int 3) H) : rLenM K [v] H Q := by
  obtain ⟨p, v0, v1, v2, rfl, hs, _⟩ := h
  exact ⟨p, _, rfl, .inr (sqT_up S.ext hs), q⟩
theorem ty_P3 {r0 : R α} {r1 : R β} {r2 : R γ} {y : α × β × γ} (h : (rP3 K r0 r1 r2).rel H v y) : TyX K H v (.type "tuple") := by
  obtain ⟨p, v0, v1, v2, rfl, hs, _⟩ := h
  exact ty_sqT hs
theorem q_gt3 {r0 : R α} {r1 : R β} {r2 : R γ} {y : α × β × γ} {σ : L2.St} {i0 i1 i2 : Nat} {QS : L2.St → Hp → Prop} (S : Sub G O H) (h : (rP3 K r0 r1 r2).rel G v y) (q : ∀ v0 v1 v2, r0.rel G v0 y.1 → r1.rel G v1 y.2.1 → r2.rel G v2 y.2.2 → QS (((σ.set i0 (some v0)).set i1 (some v1)).set i2 (some v2)) H) : gTup K 3 (gCons (gName i0) (gCons (gName i1) (gCons (gName i2) gNil))) v σ H QS := by
  obtain ⟨p, v0, v1, v2, rfl, hs, h0, h1, h2⟩ := h
  exact ⟨p, _, rfl, sqT_up S.ext hs, rfl, _, _, rfl, _, _, rfl, _, _, rfl, rfl, q v0 v1 v2 h0 h1 h2⟩
variable [DecidableEq α] [DecidableEq β] [DecidableEq γ]
def dP3 (d0 : RD K α) (d1 : RD K β) (d2 : RD K γ) : RD K (α × β × γ) := ⟨rP3 K d0.r d1.r d2.r, fun x => .tuple [d0.enc x.1, d1.enc x.2.1, d2.enc x.2.2], d0.dep + d1.dep + d2.dep + 1, fun x => d0.ok x.1 && (d1.ok x.2.1 && (d2.ok x.2.2)),
  fun x h => by
    simp only [Bool.and_eq_true] at h
    show (PyData.canLay0 _ && (PyData.canLay0 _ && (PyData.canLay0 _ && (true)))) = true
    rw [d0.lay _ h.1, d1.lay _ h.2.1, d2.lay _ h.2.2]; rfl,
  fun x => by
    have := d0.dpt x.1
    have := d1.dpt x.2.1
    have := d2.dpt x.2.2
    simp only [PyData.depth, PyData.depthAll]; omega,
  fun {H v x} h => by
    obtain ⟨p, v0, v1, v2, rfl, hs, h0, h1, h2⟩ := h
    exact .tup hs (.cons (d0.dp h0) (.cons (d1.dp h1) (.cons (d2.dp h2) (.nil)))),
  fun x y => by
    obtain ⟨a0, a1, a2⟩ := x
    obtain ⟨b0, b1, b2⟩ := y
    show (PyData.eqv _ _ && (PyData.eqv _ _ && (PyData.eqv _ _ && (true)))) = _
    rw [d0.eqv, d1.eqv, d2.eqv]
    simp only [Prod.mk.injEq, Bool.and_true, Bool.decide_and]⟩
theorem okP3 {d0 : RD K α} {d1 : RD K β} {d2 : RD K γ} (h0 : ∀ x, d0.ok x = true) (h1 : ∀ x, d1.ok x = true) (h2 : ∀ x, d2.ok x = true) : ∀ x, (dP3 d0 d1 d2).ok x = true := fun x => by
  show (d0.ok x.1 && (d1.ok x.2.1 && (d2.ok x.2.2))) = true
  rw [h0, h1, h2]; rfl
end
section
variable {α : Type} {β : Type} {γ : Type} {δ : Type} {K : PySem.W.Frag} {G H : Hp} {O : Own} {v : V} {Q : VK}
def rP4 (K : PySem.W.Frag) (r0 : R α) (r1 : R β) (r2 : R γ) (r3 : R δ) : R (α × β × γ × δ) := ⟨fun G v x => ∃ p v0 v1 v2 v3, v = .ref p ∧ SqT K G p [v0, v1, v2, v3] ∧ r0.rel G v0 x.1 ∧ r1.rel G v1 x.2.1 ∧ r2.rel G v2 x.2.2.1 ∧ r3.rel G v3 x.2.2.2, fun e ⟨p, v0, v1, v2, v3, hv, hs, h0, h1, h2, h3⟩ => ⟨p, v0, v1, v2, v3, hv, sqT_up e hs, r0.mono e h0, r1.mono e h1, r2.mono e h2, r3.mono e h3⟩⟩
theorem q_tup4 {r0 : R α} {r1 : R β} {r2 : R γ} {r3 : R δ} {v0 v1 v2 v3 : V} {x0 : α} {x1 : β} {x2 : γ} {x3 : δ} (S : Sub G O H) (h0 : r0.rel G v0 x0) (h1 : r1.rel G v1 x1) (h2 : r2.rel G v2 x2) (h3 : r3.rel G v3 x3) (q : ∀ u G' H', Ext G G' → Sub G' O H' → (rP4 K r0 r1 r2 r3).rel G' u (x0, x1, x2, x3) → Q u H') : mkTup [v0, v1, v2, v3] H Q :=
  ⟨sz (by show 4 ≤ 100000; decide), fun p hp => q _ _ _ (S.extNew hp _) (S.new hp) ⟨p, v0, v1, v2, v3, rfl, .inl (.inl upd_same), r0.mono (S.extNew hp _) h0, r1.mono (S.extNew hp _) h1, r2.mono (S.extNew hp _) h2, r3.mono (S.extNew hp _) h3⟩⟩
theorem q_p4_0 {r0 : R α} {r1 : R β} {r2 : R γ} {r3 : R δ} {y : α × β × γ × δ} (S : Sub G O H) (h : (rP4 K r0 r1 r2 r3).rel G v y) (q : ∀ w, r0.rel G w y.1 → Q w H) : rIxT K v (.int 0) H Q := by
  obtain ⟨p, v0, v1, v2, v3, rfl, hs, h0, h1, h2, h3⟩ := h
  exact ⟨p, _, 0, v0, rfl, rfl, sqT_up S.ext hs, rfl, q v0 h0⟩
theorem q_p4_1 {r0 : R α} {r1 : R β} {r2 : R γ} {r3 : R δ} {y : α × β × γ × δ} (S : Sub G O H) (h : (rP4 K r0 r1 r2 r3).rel G v y) (q : ∀ w, r1.rel G w y.2.1 → Q w H) : rIxT K v (.int 1) H Q := by
  obtain ⟨p, v0, v1, v2, v3, rfl, hs, h0, h1, h2, h3⟩ := h
  exact ⟨p, _, 1, v1, rfl, rfl, sqT_up S.ext hs, rfl, q v1 h1⟩
theorem q_p4_2 {r0 : R α} {r1 : R β} {r2 : R γ} {r3 : R δ} {y : α × β × γ × δ} (S : Sub G O H) (h : (rP4 K r0 r1 r2 r3).rel G v y) (q : ∀ w, r2.rel G w y.2.2.1 → Q w H) : rIxT K v (.int 2) H Q := by
  obtain ⟨p, v0, v1, v2, v3, rfl, hs, h0, h1, h2, h3⟩ := h
  exact ⟨p, _, 2, v2, rfl, rfl, sqT_up S.ext hs, rfl, q v2 h2⟩
theorem q_p4_3 {r0 : R α} {r1 : R β} {r2 : R γ} {r3 : R δ} {y : α × β × γ × δ} (S : Sub G O H) (h : (rP4 K r0 r1 r2 r3).rel G v y) (q : ∀ w, r3.rel G w y.2.2.2 → Q w H) : rIxT K v (.int 3) H Q := by
  obtain ⟨p, v0, v1, v2, v3, rfl, hs, h0, h1, h2, h3⟩ := h
  exact ⟨p, _, 3, v3, rfl, rfl, sqT_up S.ext hs, rfl, q v3 h3⟩
theorem q_len4 {r0 : R α} {r1 : R β} {r2 : R γ} {r3 : R δ} {y : α × β × γ × δ} (S : Sub G O H) (h : (rP4 K r0 r1 r2 r3).rel G v y) (q : Q (.int 4) H) : rLenM K [v] H Q := by
  obtain ⟨p, v0, v1, v2, v3, rfl, hs, _⟩ := h
  exact ⟨p, _, rfl, .inr (sqT_up S.ext hs), q⟩
theorem ty_P4 {r0 : R α} {r1 : R β} {r2 : R γ} {r3 : R δ} {y : α × β × γ × δ} (h : (rP4 K r0 r1 r2 r3).rel H v y) : TyX K H v (.type "tuple") := by
  obtain ⟨p, v0, v1, v2, v3, rfl, hs, _⟩ := h
  exact ty_sqT hs
theorem q_gt4 {r0 : R α} {r1 : R β} {r2 : R γ} {r3 : R δ} {y : α × β × γ × δ} {σ : L2.St} {i0 i1 i2 i3 : Nat} {QS : L2.St → Hp → Prop} (S : Sub G O H) (h : (rP4 K r0 r1 r2 r3).rel G v y) (q : ∀ v0 v1 v2 v3, r0.rel G v0 y.1 → r1.rel G v1 y.2.1 → r2.rel G v2 y.2.2.1 → r3.rel G v3 y.2.2.2 → QS ((((σ.set i0 (some v0)).set i1 (some v1)).set i2 (some v2)).set i3 (some v3)) H) : gTup K 4 (gCons (gName i0) (gCons (gName i1) (gCons (gName i2) (gCons (gName i3) gNil)))) v σ H QS := by
  obtain ⟨p, v0, v1, v2, v3, rfl, hs, h0, h1, h2, h3⟩ := h
  exact ⟨p, _, rfl, sqT_up S.ext hs, rfl, _, _, rfl, _, _, rfl, _, _, rfl, _, _, rfl, rfl, q v0 v1 v2 v3 h0 h1 h2 h3⟩
variable [DecidableEq α] [DecidableEq β] [DecidableEq γ] [DecidableEq δ]
def dP4 (d0 : RD K α) (d1 : RD K β) (d2 : RD K γ) (d3 : RD K δ) : RD K (α × β × γ × δ) := ⟨rP4 K d0.r d1.r d2.r d3.r, fun x => .tuple [d0.enc x.1, d1.enc x.2.1, d2.enc x.2.2.1, d3.enc x.2.2.2], d0.dep + d1.dep + d2.dep + d3.dep + 1, fun x => d0.ok x.1 && (d1.ok x.2.1 && (d2.ok x.2.2.1 && (d3.ok x.2.2.2))),
  fun x h => by
    simp only [Bool.and_eq_true] at h
    show (PyData.canLay0 _ && (PyData.canLay0 _ && (PyData.canLay0 _ && (PyData.canLay0 _ && (true))))) = true
    rw [d0.lay _ h.1, d1.lay _ h.2.1, d2.lay _ h.2.2.1, d3.lay _ h.2.2.2]; rfl,
  fun x => by
    have := d0.dpt x.1
    have := d1.dpt x.2.1
    have := d2.dpt x.2.2.1
    have := d3.dpt x.2.2.2
    simp only [PyData.depth, PyData.depthAll]; omega,
  fun {H v x} h => by
    obtain ⟨p, v0, v1, v2, v3, rfl, hs, h0, h1, h2, h3⟩ := h
    exact .tup hs (.cons (d0.dp h0) (.cons (d1.dp h1) (.cons (d2.dp h2) (.cons (d3.dp h3) (.nil))))),
  fun x y => by
    obtain ⟨a0, a1, a2, a3⟩ := x
    obtain ⟨b0, b1, b2, b3⟩ := y
    show (PyData.eqv _ _ && (PyData.eqv _ _ && (PyData.eqv _ _ && (PyData.eqv _ _ && (true))))) = _
    rw [d0.eqv, d1.eqv, d2.eqv, d3.eqv]
    simp only [Prod.mk.injEq, Bool.and_true, Bool.decide_and]⟩
theorem okP4 {d0 : RD K α} {d1 : RD K β} {d2 : RD K γ} {d3 : RD K δ} (h0 : ∀ x, d0.ok x = true) (h1 : ∀ x, d1.ok x = true) (h2 : ∀ x, d2.ok x = true) (h3 : ∀ x, d3.ok x = true) : ∀ x, (dP4 d0 d1 d2 d3).ok x = true := fun x => by
  show (d0.ok x.1 && (d1.ok x.2.1 && (d2.ok x.2.2.1 && (d3.ok x.2.2.2)))) = true
  rw [h0, h1, h2, h3]; rfl
end
section
variable {α : Type} {β : Type} {γ : Type} {δ : Type} {ε : Type} {K : PySem.W.Frag} {G H : Hp} {O : Own} {v : V} {Q : VK}
def rP5 (K : PySem.W.Frag) (r0 : R α) (r1 : R β) (r2 : R γ) (r3 : R δ) (r4 : R ε) : R (α × β × γ × δ × ε) := ⟨fun G v x => ∃ p v0 v1 v2 v3 v4, v = .ref p ∧ SqT K G p [v0, v1, v2, v3, v4] ∧ r0.rel G v0 x.1 ∧ r1.rel G v1 x.2.1 ∧ r2.rel G v2 x.2.2.1 ∧ r3.rel G v3 x.2.2.2.1 ∧ r4.rel G v4 x.2.2.2.2, fun e ⟨p, v0, v1, v2, v3, v4, hv, hs, h0, h1, h2, h3, h4⟩ => ⟨p, v0, v1, v2, v3, v4, hv, sqT_up e hs, r0.mono e h0, r1.mono e h1, r2.mono e h2, r3.mono e h3, r4.mono e h4⟩⟩
theorem q_tup5 {r0 : R α} {r1 : R β} {r2 : R γ} {r3 : R δ} {r4 : R ε} {v0 v1 v2 v3 v4 : V} {x0 : α} {x1 : β} {x2 : γ} {x3 : δ} {x4 : ε} (S : Sub G O H) (h0 : r0.rel G v0 x0) (h1 : r1.rel G v1 x1) (h2 : r2.rel G v2 x2) (h3 : r3.rel G v3 x3) (h4 : r4.rel G v4 x4) (q : ∀ u G' H', Ext G G' → Sub G' O H' → (rP5 K r0 r1 r2 r3 r4).rel G' u (x0, x1, x2, x3, x4) → Q u H') : mkTup [v0, v1, v2, v3, v4] H Q :=
  ⟨sz (by show 5 ≤ 100000; decide), fun p hp => q _ _ _ (S.extNew hp _) (S.new hp) ⟨p, v0, v1, v2, v3, v4, rfl, .inl (.inl upd_same), r0.mono (S.extNew hp _) h0, r1.mono (S.extNew hp _) h1, r2.mono (S.extNew hp _) h2, r3.mono (S.extNew hp _) h3, r4.mono (S.extNew hp _) h4⟩⟩
theorem q_p5_0 {r0 : R α} {r1 : R β} {r2 : R γ} {r3 : R δ} {r4 : R ε} {y : α × β × γ × δ × ε} (S : Sub G O H) (h : (rP5 K r0 r1 r2 r3 r4).rel G v y) (q : ∀ w, r0.rel G w y.1 → Q w H) : rIxT K v (.int 0) H Q := by
  obtain ⟨p, v0, v1, v2, v3, v4, rfl, hs, h0, h1, h2, h3, h4⟩ := h
  exact ⟨p, _, 0, v0, rfl, rfl, sqT_up S.ext hs, rfl, q v0 h0⟩
theorem q_p5_1 {r0 : R α} {r1 : R β} {r2 : R γ} {r3 : R δ} {r4 : R ε} {y : α × β × γ × δ × ε} (S : Sub G O H) (h : (rP5 K r0 r1 r2 r3 r4).rel G v y) (q : ∀ w, r1.rel G w y.2.1 → Q w H) : rIxT K v (.int 1) H Q := by
  obtain ⟨p, v0, v1, v2, v3, v4, rfl, hs, h0, h1, h2, h3, h4⟩ := h
  exact ⟨p, _, 1, v1, rfl, rfl, sqT_up S.ext hs, rfl, q v1 h1⟩
theorem q_p5_2 {r0 : R α} {r1 : R β} {r2 : R γ} {r3 : R δ} {r4 : R ε} {y : α × β × γ × δ × ε} (S : Sub G O H) (h : (rP5 K r0 r1 r2 r3 r4).rel G v y) (q : ∀ w, r2.rel G w y.2.2.1 → Q w H) : rIxT K v (.int 2) H Q := by
  obtain ⟨p, v0, v1, v2, v3, v4, rfl, hs, h0, h1, h2, h3, h4⟩ := h
  exact ⟨p, _, 2, v2, rfl, rfl, sqT_up S.ext hs, rfl, q v2 h2⟩
theorem q_p5_3 {r0 : R α} {r1 : R β} {r2 : R γ} {r3 : R δ} {r4 : R ε} {y : α × β × γ × δ × ε} (S : Sub G O H) (h : (rP5 K r0 r1 r2 r3 r4).rel G v y) (q : ∀ w, r3.rel G w y.2.2.2.1 → Q w H) : rIxT K v (.int 3) H Q := by
  obtain ⟨p, v0, v1, v2, v3, v4, rfl, hs, h0, h1, h2, h3, h4⟩ := h
  exact ⟨p, _, 3, v3, rfl, rfl, sqT_up S.ext hs, rfl, q v3 h3⟩
theorem q_p5_4 {r0 : R α} {r1 : R β} {r2 : R γ} {r3 : R δ} {r4 : R ε} {y : α × β × γ × δ × ε} (S : Sub G O H) (h : (rP5 K r0 r1 r2 r3 r4).rel G v y) (q : ∀ w, r4.rel G w y.2.2.2.2 → Q w H) : rIxT K v (.int 4) H Q := by
  obtain ⟨p, v0, v1, v2, v3, v4, rfl, hs, h0, h1, h2, h3, h4⟩ := h
  exact ⟨p, _, 4, v4, rfl, rfl, sqT_up S.ext hs, rfl, q v4 h4⟩
theorem q_len5 {r0 : R α} {r1 : R β} {r2 : R γ} {r3 : R δ} {r4 : R ε} {y : α × β × γ × δ × ε} (S : Sub G O H) (h : (rP5 K r0 r1 r2 r3 r4).rel G v y) (q : Q (.int 5) H) : rLenM K [v] H Q := by
  obtain ⟨p, v0, v1, v2, v3, v4, rfl, hs, _⟩ := h
  exact ⟨p, _, rfl, .inr (sqT_up S.ext hs), q⟩
theorem ty_P5 {r0 : R α} {r1 : R β} {r2 : R γ} {r3 : R δ} {r4 : R ε} {y : α × β × γ × δ × ε} (h : (rP5 K r0 r1 r2 r3 r4).rel H v y) : TyX K H v (.type "tuple") := by
  obtain ⟨p, v0, v1, v2, v3, v4, rfl, hs, _⟩ := h
  exact ty_sqT hs
theorem q_gt5 {r0 : R α} {r1 : R β} {r2 : R γ} {r3 : R δ} {r4 : R ε} {y : α × β × γ × δ × ε} {σ : L2.St} {i0 i1 i2 i3 i4 : Nat} {QS : L2.St → Hp → Prop} (S : Sub G O H) (h : (rP5 K r0 r1 r2 r3 r4).rel G v y) (q : ∀ v0 v1 v2 v3 v4, r0.rel G v0 y.1 → r1.rel G v1 y.2.1 → r2.rel G v2 y.2.2.1 → r3.rel G v3 y.2.2.2.1 → r4.rel G v4 y.2.2.2.2 → QS (((((σ.set i0 (some v0)).set i1 (some v1)).set i2 (some v2)).set i3 (some v3)).set i4 (some v4)) H) : gTup K 5 (gCons (gName i0) (gCons (gName i1) (gCons (gName i2) (gCons (gName i3) (gCons (gName i4) gNil))))) v σ H QS := by
  obtain ⟨p, v0, v1, v2, v3, v4, rfl, hs, h0, h1, h2, h3, h4⟩ := h
  exact ⟨p, _, rfl, sqT_up S.ext hs, rfl, _, _, rfl, _, _, rfl, _, _, rfl, _, _, rfl, _, _, rfl, rfl, q v0 v1 v2 v3 v4 h0 h1 h2 h3 h4⟩
variable [DecidableEq α] [DecidableEq β] [DecidableEq γ] [DecidableEq δ] [DecidableEq ε]
def dP5 (d0 : RD K α) (d1 : RD K β) (d2 : RD K γ) (d3 : RD K δ) (d4 : RD K ε) : RD K (α × β × γ × δ × ε) := ⟨rP5 K d0.r d1.r d2.r d3.r d4.r, fun x => .tuple [d0.enc x.1, d1.enc x.2.1, d2.enc x.2.2.1, d3.enc x.2.2.2.1, d4.enc x.2.2.2.2], d0.dep + d1.dep + d2.dep + d3.dep + d4.dep + 1, fun x => d0.ok x.1 && (d1.ok x.2.1 && (d2.ok x.2.2.1 && (d3.ok x.2.2.2.1 && (d4.ok x.2.2.2.2)))),
  fun x h => by
    simp only [Bool.and_eq_true] at h
    show (PyData.canLay0 _ && (PyData.canLay0 _ && (PyData.canLay0 _ && (PyData.canLay0 _ && (PyData.canLay0 _ && (true)))))) = true
    rw [d0.lay _ h.1, d1.lay _ h.2.1, d2.lay _ h.2.2.1, d3.lay _ h.2.2.2.1, d4.lay _ h.2.2.2.2]; rfl,
  fun x => by
    have := d0.dpt x.1
    have := d1.dpt x.2.1
    have := d2.dpt x.2.2.1
    have := d3.dpt x.2.2.2.1
    have := d4.dpt x.2.2.2.2
    simp only [PyData.depth, PyData.depthAll]; omega,
  fun {H v x} h => by
    obtain ⟨p, v0, v1, v2, v3, v4, rfl, hs, h0, h1, h2, h3, h4⟩ := h
    exact .tup hs (.cons (d0.dp h0) (.cons (d1.dp h1) (.cons (d2.dp h2) (.cons (d3.dp h3) (.cons (d4.dp h4) (.nil)))))),
  fun x y => by
    obtain ⟨a0, a1, a2, a3, a4⟩ := x
    obtain ⟨b0, b1, b2, b3, b4⟩ := y
    show (PyData.eqv _ _ && (PyData.eqv _ _ && (PyData.eqv _ _ && (PyData.eqv _ _ && (PyData.eqv _ _ && (true)))))) = _
    rw [d0.eqv, d1.eqv, d2.eqv, d3.eqv, d4.eqv]
    simp only [Prod.mk.injEq, Bool.and_true, Bool.decide_and]⟩
theorem okP5 {d0 : RD K α} {d1 : RD K β} {d2 : RD K γ} {d3 : RD K δ} {d4 : RD K ε} (h0 : ∀ x, d0.ok x = true) (h1 : ∀ x, d1.ok x = true) (h2 : ∀ x, d2.ok x = true) (h3 : ∀ x, d3.ok x = true) (h4 : ∀ x, d4.ok x = true) : ∀ x, (dP5 d0 d1 d2 d3 d4).ok x = true := fun x => by
  show (d0.ok x.1 && (d1.ok x.2.1 && (d2.ok x.2.2.1 && (d3.ok x.2.2.2.1 && (d4.ok x.2.2.2.2))))) = true
  rw [h0, h1, h2, h3, h4]; rfl
end
section
variable {α : Type} {β : Type} {γ : Type} {δ : Type} {ε : Type} {ζ : Type} {K : PySem.W.Frag} {G H : Hp} {O : Own} {v : V} {Q : VK}
def rP6 (K : PySem.W.Frag) (r0 : R α) (r1 : R β) (r2 : R γ) (r3 : R δ) (r4 : R ε) (r5 : R ζ) : R (α × β × γ × δ × ε × ζ) := ⟨fun G v x => ∃ p v0 v1 v2 v3 v4 v5, v = .ref p ∧ SqT K G p [v0, v1, v2, v3, v4, v5] ∧ r0.rel G v0 x.1 ∧ r1.rel G v1 x.2.1 ∧ r2.rel G v2 x.2.2.1 ∧ r3.rel G v3 x.2.2.2.1 ∧ r4.rel G v4 x.2.2.2.2.1 ∧ r5.rel G v5 x.2.2.2.2.2, fun e ⟨p, v0, v1, v2, v3, v4, v5, hv, hs, h0, h1, h2, h3, h4, h5⟩ => ⟨p, v0, v1, v2, v3, v4, v5, hv, sqT_up e hs, r0.mono e h0, r1.mono e h1, r2.mono e h2, r3.mono e h3, r4.mono e h4, r5.mono e h5⟩⟩
theorem q_tup6 {r0 : R α} {r1 : R β} {r2 : R γ} {r3 : R δ} {r4 : R ε} {r5 : R ζ} {v0 v1 v2 v3 v4 v5 : V} {x0 : α} {x1 : β} {x2 : γ} {x3 : δ} {x4 : ε} {x5 : ζ} (S : Sub G O H) (h0 : r0.rel G v0 x0) (h1 : r1.rel G v1 x1) (h2 : r2.rel G v2 x2) (h3 : r3.rel G v3 x3) (h4 : r4.rel G v4 x4) (h5 : r5.rel G v5 x5) (q : ∀ u G' H', Ext G G' → Sub G' O H' → (rP6 K r0 r1 r2 r3 r4 r5).rel G' u (x0, x1, x2, x3, x4, x5) → Q u H') : mkTup [v0, v1, v2, v3, v4, v5] H Q :=
  ⟨sz (by show 6 ≤ 100000; decide), fun p hp => q _ _ _ (S.extNew hp _) (S.new hp) ⟨p, v0, v1, v2, v3, v4, v5, rfl, .inl (.inl upd_same), r0.mono (S.extNew hp _) h0, r1.mono (S.extNew hp _) h1, r2.mono (S.extNew hp _) h2, r3.mono (S.extNew hp _) h3, r4.mono (S.extNew hp _) h4, r5.mono (S.extNew hp _) h5⟩⟩
theorem q_p6_0 {r0 : R α} {r1 : R β} {r2 : R γ} {r3 : R δ} {r4 : R ε} {r5 : R ζ} {y : α × β × γ × δ × ε × ζ} (S : Sub G O H) (h : (rP6 K r0 r1 r2 r3 r4 r5).rel G v y) (q : ∀ w, r0.rel G w y.1 → Q w H) : rIxT K v (.int 0) H Q := by
  obtain ⟨p, v0, v1, v2, v3, v4, v5, rfl, hs, h0, h1, h2, h3, h4, h5⟩ := h
  exact ⟨p, _, 0, v0, rfl, rfl, sqT_up S.ext hs, rfl, q v0 h0⟩
theorem q_p6_1 {r0 : R α} {r1 : R β} {r2 : R γ} {r3 : R δ} {r4 : R ε} {r5 : R ζ} {y : α × β × γ × δ × ε × ζ} (S : Sub G O H) (h : (rP6 K r0 r1 r2 r3 r4 r5).rel G v y) (q : ∀ w, r1.rel G w y.2.1 → Q w H) : rIxT K v (.int 1) H Q := by
  obtain ⟨p, v0, v1, v2, v3, v4, v5, rfl, hs, h0, h1, h2, h3, h4, h5⟩ := h
  exact ⟨p, _, 1, v1, rfl, rfl, sqT_up S.ext hs, rfl, q v1 h1⟩
theorem q_p6_2 {r0 : R α} {r1 : R β} {r2 : R γ} {r3 : R δ} {r4 : R ε} {r5 : R ζ} {y : α × β × γ × δ × ε × ζ} (S : Sub G O H) (h : (rP6 K r0 r1 r2 r3 r4 r5).rel G v y) (q : ∀ w, r2.rel G w y.2.2.1 → Q w H) : rIxT K v (.int 2) H Q := by
  obtain ⟨p, v0, v1, v2, v3, v4, v5, rfl, hs, h0, h1, h2, h3, h4, h5⟩ := h
  exact ⟨p, _, 2, v2, rfl, rfl, sqT_up S.ext hs, rfl, q v2 h2⟩
theorem q_p6_3 {r0 : R α} {r1 : R β} {r2 : R γ} {r3 : R δ} {r4 : R ε} {r5 : R ζ} {y : α × β × γ × δ × ε × ζ} (S : Sub G O H) (h : (rP6 K r0 r1 r2 r3 r4 r5).rel G v y) (q : ∀ w, r3.rel G w y.2.2.2.1 → Q w H) : rIxT K v (.int 3) H Q := by
  obtain ⟨p, v0, v1, v2, v3, v4, v5, rfl, hs, h0, h1, h2, h3, h4, h5⟩ := h
  exact ⟨p, _, 3, v3, rfl, rfl, sqT_up S.ext hs, rfl, q v3 h3⟩
theorem q_p6_4 {r0 : R α} {r1 : R β} {r2 : R γ} {r3 : R δ} {r4 : R ε} {r5 : R ζ} {y : α × β × γ × δ × ε × ζ} (S : Sub G O H) (h : (rP6 K r0 r1 r2 r3 r4 r5).rel G v y) (q : ∀ w, r4.rel G w y.2.2.2.2.1 → Q w H) : rIxT K v (.int 4) H Q := by
  obtain ⟨p, v0, v1, v2, v3, v4, v5, rfl, hs, h0, h1, h2, h3, h4, h5⟩ := h
  exact ⟨p, _, 4, v4, rfl, rfl, sqT_up S.ext hs, rfl, q v4 h4⟩
theorem q_p6_5 {r0 : R α} {r1 : R β} {r2 : R γ} {r3 : R δ} {r4 : R ε} {r5 : R ζ} {y : α × β × γ × δ × ε × ζ} (S : Sub G O H) (h : (rP6 K r0 r1 r2 r3 r4 r5).rel G v y) (q : ∀ w, r5.rel G w y.2.2.2.2.2 → Q w H) : rIxT K v (.int 5) H Q := by
  obtain ⟨p, v0, v1, v2, v3, v4, v5, rfl, hs, h0, h1, h2, h3, h4, h5⟩ := h
  exact ⟨p, _, 5, v5, rfl, rfl, sqT_up S.ext hs, rfl, q v5 h5⟩
theorem q_len6 {r0 : R α} {r1 : R β} {r2 : R γ} {r3 : R δ} {r4 : R ε} {r5 : R ζ} {y : α × β × γ × δ × ε × ζ} (S : Sub G O H) (h : (rP6 K r0 r1 r2 r3 r4 r5).rel G v y) (q : Q (.int 6) H) : rLenM K [v] H Q := by
  obtain ⟨p, v0, v1, v2, v3, v4, v5, rfl, hs, _⟩ := h
  exact ⟨p, _, rfl, .inr (sqT_up S.ext hs), q⟩
theorem ty_P6 {r0 : R α} {r1 : R β} {r2 : R γ} {r3 : R δ} {r4 : R ε} {r5 : R ζ} {y : α × β × γ × δ × ε × ζ} (h : (rP6 K r0 r1 r2 r3 r4 r5).rel H v y) : TyX K H v (.type "tuple") := by
  obtain ⟨p, v0, v1, v2, v3, v4, v5, rfl, hs, _⟩ := h
  exact ty_sqT hs
theorem q_gt6 {r0 : R α} {r1 : R β} {r2 : R γ} {r3 : R δ} {r4 : R ε} {r5 : R ζ} {y : α × β × γ × δ × ε × ζ} {σ : L2.St} {i0 i1 i2 i3 i4 i5 : Nat} {QS : L2.St → Hp → Prop} (S : Sub G O H) (h : (rP6 K r0 r1 r2 r3 r4 r5).rel G v y) (q : ∀ v0 v1 v2 v3 v4 v5, r0.rel G v0 y.1 → r1.rel G v1 y.2.1 → r2.rel G v2 y.2.2.1 → r3.rel G v3 y.2.2.2.1 → r4.rel G v4 y.2.2.2.2.1 → r5.rel G v5 y.2.2.2.2.2 → QS ((((((σ.set i0 (some v0)).set i1 (some v1)).set i2 (some v2)).set i3 (some v3)).set i4 (some v4)).set i5 (some v5)) H) : gTup K 6 (gCons (gName i0) (gCons (gName i1) (gCons (gName i2) (gCons (gName i3) (gCons (gName i4) (gCons (gName i5) gNil)))))) v σ H QS := by
  obtain ⟨p, v0, v1, v2, v3, v4, v5, rfl, hs, h0, h1, h2, h3, h4, h5⟩ := h
  exact ⟨p, _, rfl, sqT_up S.ext hs, rfl, _, _, rfl, _, _, rfl, _, _, rfl, _, _, rfl, _, _, rfl, _, _, rfl, rfl, q v0 v1 v2 v3 v4 v5 h0 h1 h2 h3 h4 h5⟩
variable [DecidableEq α] [DecidableEq β] [DecidableEq γ] [DecidableEq δ] [DecidableEq ε] [DecidableEq ζ]
def dP6 (d0 : RD K α) (d1 : RD K β) (d2 : RD K γ) (d3 : RD K δ) (d4 : RD K ε) (d5 : RD K ζ) : RD K (α × β × γ × δ × ε × ζ) := ⟨rP6 K d0.r d1.r d2.r d3.r d4.r d5.r, fun x => .tuple [d0.enc x.1, d1.enc x.2.1, d2.enc x.2.2.1, d3.enc x.2.2.2.1, d4.enc x.2.2.2.2.1, d5.enc x.2.2.2.2.2], d0.dep + d1.dep + d2.dep + d3.dep + d4.dep + d5.dep + 1, fun x => d0.ok x.1 && (d1.ok x.2.1 && (d2.ok x.2.2.1 && (d3.ok x.2.2.2.1 && (d4.ok x.2.2.2.2.1 && (d5.ok x.2.2.2.2.2))))),
  fun x h => by
    simp only [Bool.and_eq_true] at h
    show (PyData.canLay0 _ && (PyData.canLay0 _ && (PyData.canLay0 _ && (PyData.canLay0 _ && (PyData.canLay0 _ && (PyData.canLay0 _ && (true))))))) = true
    rw [d0.lay _ h.1, d1.lay _ h.2.1, d2.lay _ h.2.2.1, d3.lay _ h.2.2.2.1, d4.lay _ h.2.2.2.2.1, d5.lay _ h.2.2.2.2.2]; rfl,
  fun x => by
    have := d0.dpt x.1
    have := d1.dpt x.2.1
    have := d2.dpt x.2.2.1
    have := d3.dpt x.2.2.2.1
    have := d4.dpt x.2.2.2.2.1
    have := d5.dpt x.2.2.2.2.2
    simp only [PyData.depth, PyData.depthAll]; omega,
  fun {H v x} h => by
    obtain ⟨p, v0, v1, v2, v3, v4, v5, rfl, hs, h0, h1, h2, h3, h4, h5⟩ := h
    exact .tup hs (.cons (d0.dp h0) (.cons (d1.dp h1) (.cons (d2.dp h2) (.cons (d3.dp h3) (.cons (d4.dp h4) (.cons (d5.dp h5) (.nil))))))),
  fun x y => by
    obtain ⟨a0, a1, a2, a3, a4, a5⟩ := x
    obtain ⟨b0, b1, b2, b3, b4, b5⟩ := y
    show (PyData.eqv _ _ && (PyData.eqv _ _ && (PyData.eqv _ _ && (PyData.eqv _ _ && (PyData.eqv _ _ && (PyData.eqv _ _ && (true))))))) = _
    rw [d0.eqv, d1.eqv, d2.eqv, d3.eqv, d4.eqv, d5.eqv]
    simp only [Prod.mk.injEq, Bool.and_true, Bool.decide_and]⟩
theorem okP6 {d0 : RD K α} {d1 : RD K β} {d2 : RD K γ} {d3 : RD K δ} {d4 : RD K ε} {d5 : RD K ζ} (h0 : ∀ x, d0.ok x = true) (h1 : ∀ x, d1.ok x = true) (h2 : ∀ x, d2.ok x = true) (h3 : ∀ x, d3.ok x = true) (h4 : ∀ x, d4.ok x = true) (h5 : ∀ x, d5.ok x = true) : ∀ x, (dP6 d0 d1 d2 d3 d4 d5).ok x = true := fun x => by
  show (d0.ok x.1 && (d1.ok x.2.1 && (d2.ok x.2.2.1 && (d3.ok x.2.2.2.1 && (d4.ok x.2.2.2.2.1 && (d5.ok x.2.2.2.2.2)))))) = true
  rw [h0, h1, h2, h3, h4, h5]; rfl
end
end Mr

set_option Elab.async false
set_option linter.all false
set_option maxRecDepth 100000
set_option maxHeartbeats 2000000
/-! Mir2: lists that stand by themselves, None, one text or data, truth, +, comprehensions, stars. -/
namespace Mr
open PySem PySem.Spec PyProof.Rows L2
section
variable {α β : Type} {r : R α} {G G' H : Hp} {O : Own} {K : PySem.W.Frag} {v w : V} {vs ws : List V} {x : α} {xs ys zs : List α} {a : Addr} {Q : VK}
/-- a list that the program made -/
def rM (r : R α) : R (List α) := ⟨fun G v xs => ∃ p vs, v = .ref p ∧ G p = some (.lst vs) ∧ Al r G vs xs, fun e ⟨p, vs, h1, h2, h3⟩ => ⟨p, vs, h1, e _ _ h2, h3.up e⟩⟩
theorem rM_L (h : (rM r).rel G v xs) : (rL K r).rel G v xs := let ⟨p, vs, e, h, ha⟩ := h; ⟨p, vs, e, .inl (.inl h), ha⟩
theorem rM_Q (h : (rM r).rel G v xs) : (rQ K r).rel G v xs := rL_Q (rM_L h)
theorem frz_M (S : Sub G ((a, .lst vs) :: O) H) (h : Al r G vs xs) : ∃ G', Ext G G' ∧ Sub G' O H ∧ (rM r).rel G' (.ref a) xs :=
  ⟨_, S.extFrz, S.frz, a, vs, rfl, upd_same, h.up S.extFrz⟩
theorem rM_own (S : Sub G ((a, .lst vs) :: O) H) (h : Al r G vs xs) : (rM r).rel H (.ref a) xs := ⟨a, vs, rfl, S.head, h.up S.ext⟩
theorem q_slM {lo hi : Option Int} (S : Sub G O H) (h : (rL K r).rel G v xs) (q : ∀ w G' H', Ext G G' → Sub G' O H' → (rM r).rel G' w (cutM xs lo hi) → Q w H') : rSlL K v lo hi H Q := by
  obtain ⟨p, vs, rfl, hs, ha⟩ := h
  refine ⟨p, vs, rfl, sqL_up S.ext hs, fun t ht => q _ _ _ (S.extNew ht (.lst (cutV vs lo hi))) (S.new ht) ⟨t, _, rfl, upd_same, ?_⟩⟩
  exact (ha.up (S.extNew ht _)).cut
theorem q_listM (S : Sub G O H) (h : (rQ K r).rel G v xs) (q : ∀ u G' H', Ext G G' → Sub G' O H' → (rM r).rel G' u xs → Q u H') : rListOf K [v] H Q := by
  obtain ⟨p, vs, rfl, hs, ha⟩ := h
  exact ⟨p, vs, rfl, hs.imp (sqL_up S.ext) (sqT_up S.ext), fun l hl => q _ _ _ (S.extNew hl _) (S.new hl) ⟨l, vs, rfl, upd_same, ha.up (S.extNew hl _)⟩⟩
/-- a list as it stands now: its items by the frozen part -/
def LsAt (r : R α) (G H : Hp) (v : V) (xs : List α) : Prop := ∃ p vs, v = .ref p ∧ H p = some (.lst vs) ∧ Al r G vs xs
theorem ls_M (S : Sub G O H) (h : (rM r).rel G v xs) : LsAt r G H v xs := let ⟨p, vs, e, h, ha⟩ := h; ⟨p, vs, e, S.ext _ _ h, ha⟩
theorem ls_O (S : Sub G ((a, .lst vs) :: O) H) (h : Al r G vs xs) : LsAt r G H (.ref a) xs := ⟨a, vs, rfl, S.head, h⟩
theorem q_cat (S : Sub G O H) (h1 : LsAt r G H v xs) (h2 : LsAt r G H w ys) (e : catM xs ys = some zs) (q : ∀ u G' H', Ext G G' → Sub G' O H' → (rM r).rel G' u zs → Q u H') : rCat v w H Q := by
  obtain ⟨p, vs, rfl, h3, ha⟩ := h1
  obtain ⟨p2, ws, rfl, h4, hb⟩ := h2
  obtain ⟨c, rfl⟩ := catM_some e
  refine ⟨p, p2, vs, ws, rfl, rfl, h3, h4, sz (by rw [ha.len, hb.len]; exact c), fun t ht => q _ _ _ (S.extNew ht _) (S.new ht) ⟨t, _, rfl, upd_same, ?_⟩⟩
  exact (ha.app hb).up (S.extNew ht _)
/-- a tuple display, all places alike -/
theorem q_tupH (S : Sub G O H) (h : Al r G vs xs) (e : szM xs = some ys) (q : ∀ u G' H', Ext G G' → Sub G' O H' → (rT K r).rel G' u ys → Q u H') : mkTup vs H Q := by
  obtain ⟨c, rfl⟩ := szM_some e
  exact ⟨sz (by rw [h.len]; exact c), fun p hp => q _ _ _ (S.extNew hp _) (S.new hp) ⟨p, vs, rfl, .inl (.inl upd_same), h.up (S.extNew hp _)⟩⟩
theorem Al.snoc (h : Al r G vs xs) (hv : r.rel G v x) : Al r G (vs ++ [v]) (xs ++ [x]) := h.app ⟨hv, True.intro⟩
def mkStar (K : PySem.W.Frag) (t : TA) (σ : L2.St) (QA : List V → Hp → Prop) (x : V) (H : Hp) : Prop := ∃ p xs, x = V.ref p ∧ (SqT K H p xs ∨ SqL K H p xs) ∧ t σ H fun ys H2 => QA (xs ++ ys) H2
theorem gStar {te : TE} {t : TA} {σ : L2.St} {QA : List V → Hp → Prop} (h : te σ H (mkStar K t σ QA)) : StX.tStar K te t σ H QA := h
theorem q_starT {t : TA} {σ : L2.St} {QA : List V → Hp → Prop} (S : Sub G O H) (h : (rT K r).rel G v xs) (q : ∀ vs, Al r G vs xs → t σ H fun ys H2 => QA (vs ++ ys) H2) : mkStar K t σ QA v H := by
  obtain ⟨p, vs, rfl, hs, ha⟩ := h
  exact ⟨p, vs, rfl, .inl (sqT_up S.ext hs), q vs ha⟩

/-! ### None or data; one text or data -/
def rO (r : R α) : R (Option α) := ⟨fun G v x => match x with
  | none => v = .non
  | some y => v ≠ .non ∧ r.rel G v y, fun {G G' v x} e h => by
    cases x with
    | none => exact h
    | some y => exact ⟨h.1, r.mono e h.2⟩⟩
theorem rO_none : (rO r).rel G .non none := rfl
theorem rO_some (hn : v ≠ .non) (h : r.rel G v x) : (rO r).rel G v (some x) := ⟨hn, h⟩
theorem rO_get {o : Option α} (h : (rO r).rel G v o) (e : o = some x) : r.rel G v x := by subst e; exact h.2
theorem nn_T (h : (rT K r).rel G v xs) : v ≠ .non := by obtain ⟨p, vs, rfl, _⟩ := h; intro z; cases z
theorem nn_M (h : (rM r).rel G v xs) : v ≠ .non := by obtain ⟨p, vs, rfl, _⟩ := h; intro z; cases z
def rIsNon : R2 := fun x y H Q => y = .non ∧ Q (.bl (decide (x = .non))) H
def rIsNotNon : R2 := fun x y H Q => y = .non ∧ Q (.bl (!decide (x = .non))) H
theorem op_isNon {X : Cx} : OpR X (compareOp .Is) rIsNon := op_isN
theorem op_isNotNon {X : Cx} : OpR X (compareOp .IsNot) rIsNotNon := op_notN
theorem rO_dec {o : Option α} (h : (rO r).rel G v o) : decide (v = .non) = o.isNone := by
  cases o with
  | none => rw [show v = .non from h]; rfl
  | some y => rw [decide_eq_false h.1]; rfl
theorem q_isNon {o : Option α} (h : (rO r).rel G v o) (q : Q (.bl o.isNone) H) : rIsNon v .non H Q := ⟨rfl, by rw [rO_dec h]; exact q⟩
theorem q_isNotNon {o : Option α} (h : (rO r).rel G v o) (q : Q (.bl (!o.isNone)) H) : rIsNotNon v .non H Q := ⟨rfl, by rw [rO_dec h]; exact q⟩
/-- the text c, or data -/
def rA (c : Str) (r : R α) : R (Option α) := ⟨fun G v x => match x with
  | none => v = .str c
  | some y => r.rel G v y, fun {G G' v x} e h => by
    cases x with
    | none => exact h
    | some y => exact r.mono e h⟩
theorem rA_none {c : Str} : (rA c r).rel G (.str c) none := rfl
theorem rA_some {c : Str} (h : r.rel G v x) : (rA c r).rel G v (some x) := h
theorem rA_get {c : Str} {o : Option α} (h : (rA c r).rel G v o) (e : o = some x) : r.rel G v x := by subst e; exact h
end
section
variable {K : PySem.W.Frag} {α : Type} [DecidableEq α]
def dM (d : RD K α) : RD K (List α) := ⟨rM d.r, fun xs => .list (xs.map d.enc), d.dep + 1, fun xs => xs.all d.ok, fun xs h => lays d.lay xs h, fun xs => by have := deps d.dpt xs; simp only [PyData.depth]; omega,
  fun {H v x} h => by obtain ⟨p, vs, rfl, hs, ha⟩ := h; exact .lst (.inl (.inl hs)) (ha.dps d.dp), fun x y => eqvs d.eqv x y⟩
theorem okM {d : RD K α} (h : ∀ x, d.ok x = true) : ∀ xs, (dM d).ok xs = true := fun xs => List.all_eq_true.mpr fun x _ => h x
def isTupD : PyData → Bool
  | .tuple _ => true
  | _ => false
def dA (c : Str) (hc : PyData.strOk c = true) (d : RD K α) (ht : ∀ x, isTupD (d.enc x) = true) : RD K (Option α) := ⟨rA c d.r, fun x => match x with
    | none => .str c
    | some y => d.enc y, d.dep + 1, fun x => match x with
    | none => true
    | some y => d.ok y,
  fun x h => by
    cases x with
    | none => exact hc
    | some y => exact d.lay y h,
  fun x => by
    cases x with
    | none => simp [PyData.depth]
    | some y => exact Nat.le_succ_of_le (d.dpt y),
  fun {H v x} h => by
    cases x with
    | none => cases (show v = .str c from h); exact .str c
    | some y => exact d.dp h,
  fun x y => by
    cases x with
    | none =>
      cases y with
      | none =>
        show (c == c) = decide (none = none)
        simp
      | some y =>
        have h := ht y
        show PyData.eqv (.str c) (d.enc y) = _
        cases e : d.enc y with
        | tuple zs => rfl
        | _ => rw [e] at h; cases h
    | some x =>
      cases y with
      | none =>
        have h := ht x
        show PyData.eqv (d.enc x) (.str c) = _
        cases e : d.enc x with
        | tuple zs => rfl
        | _ => rw [e] at h; cases h
      | some y =>
        show PyData.eqv (d.enc x) (d.enc y) = _
        rw [d.eqv]
        by_cases e : x = y
        · subst e; simp
        · simp [e]⟩
theorem okA {c : Str} {hc : PyData.strOk c = true} {d : RD K α} {ht : ∀ x, isTupD (d.enc x) = true} (h : ∀ x, d.ok x = true) : ∀ x, (dA c hc d ht).ok x = true := fun x => by
  cases x with
  | none => rfl
  | some y => exact h y
def dO (d : RD K α) (ht : ∀ x, isTupD (d.enc x) = true) : RD K (Option α) := ⟨rO d.r, fun x => match x with
    | none => .none
    | some y => d.enc y, d.dep + 1, fun x => match x with
    | none => true
    | some y => d.ok y,
  fun x h => by
    cases x with
    | none => rfl
    | some y => exact d.lay y h,
  fun x => by
    cases x with
    | none => simp [PyData.depth]
    | some y => exact Nat.le_succ_of_le (d.dpt y),
  fun {H v x} h => by
    cases x with
    | none => cases (show v = .non from h); exact .non
    | some y => exact d.dp h.2,
  fun x y => by
    cases x with
    | none =>
      cases y with
      | none => rfl
      | some y =>
        have h := ht y
        show PyData.eqv .none (d.enc y) = _
        cases e : d.enc y with
        | tuple zs => rfl
        | _ => rw [e] at h; cases h
    | some x =>
      cases y with
      | none =>
        have h := ht x
        show PyData.eqv (d.enc x) .none = _
        cases e : d.enc x with
        | tuple zs => rfl
        | _ => rw [e] at h; cases h
      | some y =>
        show PyData.eqv (d.enc x) (d.enc y) = _
        rw [d.eqv]
        by_cases e : x = y
        · subst e; simp
        · simp [e]⟩
theorem okO {d : RD K α} {ht : ∀ x, isTupD (d.enc x) = true} (h : ∀ x, d.ok x = true) : ∀ x, (dO d ht).ok x = true := fun x => by
  cases x with
  | none => rfl
  | some y => exact h y
/-- a text out of a few: e: its encoding (one to one) -/
def rEn {α : Type} (e : α → Str) : R α := rSc fun x => V.str (e x)
def dEn (e : α → Str) (hi : ∀ x y, e x = e y → x = y) (ho : ∀ x, PyData.strOk (e x) = true) : RD K α := ⟨rEn e, fun x => .str (e x), 1, fun _ => true, fun x _ => ho x, fun _ => by simp [PyData.depth], fun {H v x} h => by cases (show v = .str (e x) from h); exact .str _, fun x y => by
  show (e x == e y) = decide (x = y)
  by_cases h : x = y
  · subst h; simp
  · rw [decide_eq_false h]
    exact beq_eq_false_iff_ne.mpr fun z => h (hi x y z)⟩
theorem okEn {e : α → Str} {hi : ∀ x y, e x = e y → x = y} {ho : ∀ x, PyData.strOk (e x) = true} : ∀ x, (dEn (K := K) e hi ho).ok x = true := fun _ => rfl
theorem en_dec {e : α → Str} (hi : ∀ x y, e x = e y → x = y) (x y : α) : decide (e x = e y) = decide (x = y) := by
  by_cases h : x = y
  · subst h; simp
  · rw [decide_eq_false h, decide_eq_false fun z => h (hi x y z)]
end

def rE0 {α : Type} (e : α → Str) (g : α → α → V) : R2 := fun x y H Q => ∃ i j, x = .str (e i) ∧ y = .str (e j) ∧ Q (g i j) H
theorem op_eqE {α : Type} [DecidableEq α] {X : Cx} {e : α → Str} (hi : ∀ x y, e x = e y → x = y) : OpR X (compareOp .Eq) (rE0 e fun i j => .bl (decide (i = j))) := fun pins s σ H x y v u Q I rx ry h => by
  obtain ⟨i, j, rfl, rfl, q⟩ := h
  exact op_eqS pins s σ H _ _ v u Q I rx ry ⟨_, _, rfl, rfl, by show Q (.bl (decide (e i = e j))) H; rw [en_dec hi]; exact q⟩
theorem op_neE {α : Type} [DecidableEq α] {X : Cx} {e : α → Str} (hi : ∀ x y, e x = e y → x = y) : OpR X (compareOp .NotEq) (rE0 e fun i j => .bl (!decide (i = j))) := fun pins s σ H x y v u Q I rx ry h => by
  obtain ⟨i, j, rfl, rfl, q⟩ := h
  exact op_neS pins s σ H _ _ v u Q I rx ry ⟨_, _, rfl, rfl, by show Q (.bl (!decide (e i = e j))) H; rw [en_dec hi]; exact q⟩

/-! ### truth -/
def tTruM (K : PySem.W.Frag) (ta : TE) : TT := fun σ H Q => ta σ H fun x H' => ∃ k, TruV K x H' k ∧ Q k H'
theorem pt_truM {X : Cx} {a : Expr} {ta : TE} (ha : PE X a ta) (he : ∀ whole, isTrue a X.env whole = (do let v ← whole; standAt a.pos; holding [v] (truthy v)) := by intro _; rfl) : PT X a (tTruM X.K ta) := pt_truth ha he
def truM (K : PySem.W.Frag) (x : V) (H : Hp) (Q : Bool → Hp → Prop) : Prop := ∃ k, TruV K x H k ∧ Q k H
section
variable {α : Type} {r : R α} {G H : Hp} {O : Own} {K : PySem.W.Frag} {v : V} {vs : List V} {xs : List α} {a : Addr} {QB : Bool → Hp → Prop}
theorem gTru {ta : TE} {σ : L2.St} (h : ta σ H fun x H' => truM K x H' QB) : tTruM K ta σ H QB := h
theorem emp_eq (h : Al r G vs xs) : (!vs.isEmpty) = !xs.isEmpty := by
  cases vs with
  | nil =>
    cases xs with
    | nil => rfl
    | cons y ys => exact h.elim
  | cons u us =>
    cases xs with
    | nil => exact h.elim
    | cons y ys => rfl
theorem q_truT (S : Sub G O H) (h : (rT K r).rel G v xs) (q : QB (!xs.isEmpty) H) : truM K v H QB := by
  obtain ⟨p, vs, rfl, hs, ha⟩ := h
  exact ⟨_, .inr (.inl ⟨vs, sqT_up S.ext hs, rfl⟩), by rw [emp_eq ha]; exact q⟩
theorem q_truL (S : Sub G O H) (h : (rL K r).rel G v xs) (q : QB (!xs.isEmpty) H) : truM K v H QB := by
  obtain ⟨p, vs, rfl, hs, ha⟩ := h
  exact ⟨_, .inl ⟨vs, sqL_up S.ext hs, rfl⟩, by rw [emp_eq ha]; exact q⟩
theorem q_truO (S : Sub G ((a, .lst vs) :: O) H) (h : Al r G vs xs) (q : QB (!xs.isEmpty) H) : truM K (.ref a) H QB :=
  ⟨_, .inl ⟨vs, .inl (.inl S.head), rfl⟩, by rw [emp_eq h]; exact q⟩
end

/-! ### list comprehensions: a fold whose last state part is the list so far -/
def PvF {α τ : Type} (f : τ → α → Option τ) (xs : List α) (s1 : τ) (I : τ → Hp → Prop) (i : Nat) : Hp → Prop := fun H => ∃ s, I s H ∧ folM f (xs.drop i) s = some s1
def LcW (g : TG) (tt : TT) (te : TE) (vs : List Nat) (σ : L2.St) (Q : VK) (J : It) (H1 : Hp) : Prop := ∀ D, H1 D = none → ∃ W : Nat → Nat → Hp → Prop, (∃ m, W 0 m (upd H1 D (.lst []))) ∧ ∀ i m H, W i m H →
  (J.stop i H ∧ Q (.ref D) H) ∨ (J.go i H ∧ ∃ Nx : Hp → Prop, (∀ H', Nx H' → ∃ m', m' < m ∧ W (i + 1) m' H') ∧ ∀ x H', J.yld i H x H' → g x (wipe σ vs) H' fun σ2 H2 => wipe σ2 vs = wipe σ vs ∧ tt σ2 H2 fun b H3 =>
    if b = true then te σ2 H3 fun y H4 => ∃ acc, H4 D = some (.lst acc) ∧ acc.length < sizeLine ∧ Nx (upd H4 D (.lst (acc ++ [y]))) else Nx H3)
theorem gLc {wi : TI} {g : TG} {tt : TT} {te : TE} {vs : List Nat} {σ : L2.St} {H : Hp} {Q : VK} (h : wi σ H (LcW g tt te vs σ Q)) : tLc wi g tt te vs σ H Q := h
/-- a turn's end: the element is kept -/
def lcEl (D : Addr) (Nx : Hp → Prop) (y : V) (H : Hp) : Prop := ∃ acc, H D = some (.lst acc) ∧ acc.length < sizeLine ∧ Nx (upd H D (.lst (acc ++ [y])))
def lcTurn (tt : TT) (te : TE) (vs : List Nat) (σ : L2.St) (D : Addr) (Nx : Hp → Prop) (σ2 : L2.St) (H2 : Hp) : Prop := wipe σ2 vs = wipe σ vs ∧ tt σ2 H2 fun b H3 => if b = true then te σ2 H3 (lcEl D Nx) else Nx H3
theorem gYes {σ : L2.St} {H : Hp} {QB : Bool → Hp → Prop} (h : QB true H) : tYes σ H QB := h
section
variable {α β τ : Type} {J : It} {n : Nat} {GW : Hp → Prop} {Y : Nat → Hp → V → Hp → Prop} {f : τ → α → Option τ} {xs : List α} {s0 s1 : τ} {g : TG} {tt : TT} {te : TE} {ws : List Nat} {σ : L2.St} {H : Hp} {Q : VK}
theorem lc_fol (w : Walk J n GW Y) (hn : xs.length = n) (hm : folM f xs s0 = some s1) (I : Addr → τ → Hp → Prop) (h0 : ∀ D, H D = none → I D s0 (upd H D (.lst []))) (hG : ∀ D s H, I D s H → GW H)
    (hs : ∀ (D : Addr) (i : Nat) (x : α) (s s' : τ), xs[i]? = some x → f s x = some s' → folM f (xs.drop (i + 1)) s' = some s1 → ∀ v H H', I D s H → Y i H v H' → g v (wipe σ ws) H' (lcTurn tt te ws σ D (PvF f xs s1 (I D) (i + 1))))
    (hd : ∀ D H, I D s1 H → Q (.ref D) H) : LcW g tt te ws σ Q J H := by
  intro D hD
  refine lc_it w (PvF f xs s1 (I D)) ⟨s0, h0 D hD, hm⟩ (fun i H _ ⟨s, hI, _⟩ => hG D s H hI) (fun i v H H' hi ⟨s, hI, hf⟩ hy => ?_) fun H ⟨s, hI, hf⟩ => ?_
  · have hx : xs[i]? = some xs[i] := List.getElem?_eq_getElem (by omega)
    obtain ⟨s', hb, hr⟩ := folM_drop hx hf
    exact hs D i _ s s' hx hb hr v H H' hI hy
  · rw [← hn, List.drop_length] at hf
    cases hf
    exact hd D H hI
variable {K : PySem.W.Frag} {G : Hp} {O : Own} {r : R α} {v : V} {vs : List V} {a : Addr}
theorem lc_L (S : Sub G O H) (h : (rL K r).rel G v xs) (hm : folM f xs s0 = some s1) (I : Addr → τ → Hp → Prop) (h0 : ∀ D, H D = none → I D s0 (upd H D (.lst []))) (hG : ∀ D s H, I D s H → Ext G H)
    (hs : ∀ (D : Addr) (i : Nat) (x : α) (s s' : τ), f s x = some s' → folM f (xs.drop (i + 1)) s' = some s1 → ∀ w H, I D s H → r.rel G w x → g w (wipe σ ws) H (lcTurn tt te ws σ D (PvF f xs s1 (I D) (i + 1))))
    (hd : ∀ D H, I D s1 H → Q (.ref D) H) : itL K v H (LcW g tt te ws σ Q) := by
  obtain ⟨p, vs, rfl, hq, ha⟩ := h
  refine ⟨p, rfl, ⟨vs, sqL_up S.ext hq⟩, lc_fol (walk_list (xs := vs)) ha.len.symm hm I h0 (fun D s H hI => sqL_up (hG D s H hI) hq) (fun D i x s s' hx hb hr w H H' hI hY => ?_) hd⟩
  obtain ⟨rfl, hw⟩ := hY
  exact hs D i x s s' hb hr w _ hI (ha.at hx hw)
theorem lc_T (S : Sub G O H) (h : (rT K r).rel G v xs) (hm : folM f xs s0 = some s1) (I : Addr → τ → Hp → Prop) (h0 : ∀ D, H D = none → I D s0 (upd H D (.lst []))) (hG : ∀ D s H, I D s H → Ext G H)
    (hs : ∀ (D : Addr) (i : Nat) (x : α) (s s' : τ), f s x = some s' → folM f (xs.drop (i + 1)) s' = some s1 → ∀ w H, I D s H → r.rel G w x → g w (wipe σ ws) H (lcTurn tt te ws σ D (PvF f xs s1 (I D) (i + 1))))
    (hd : ∀ D H, I D s1 H → Q (.ref D) H) : itT K v H (LcW g tt te ws σ Q) := by
  obtain ⟨p, vs, rfl, hq, ha⟩ := h
  refine ⟨p, rfl, ⟨vs, sqT_up S.ext hq⟩, lc_fol (walk_tup (xs := vs)) ha.len.symm hm I h0 (fun D s H hI => sqT_up (hG D s H hI) hq) (fun D i x s s' hx hb hr w H H' hI hY => ?_) hd⟩
  obtain ⟨rfl, hw⟩ := hY
  exact hs D i x s s' hb hr w _ hI (ha.at hx hw)
theorem lc_R {f : τ → Int → Option τ} {xs : List Int} {n : Int} (hx : rngM n = some xs) (hm : folM f xs s0 = some s1) (I : Addr → τ → Hp → Prop) (h0 : ∀ D, H D = none → I D s0 (upd H D (.lst [])))
    (hs : ∀ (D : Addr) (i : Nat) (x : Int) (s s' : τ), f s x = some s' → folM f (xs.drop (i + 1)) s' = some s1 → ∀ H, I D s H → g (.int x) (wipe σ ws) H (lcTurn tt te ws σ D (PvF f xs s1 (I D) (i + 1))))
    (hd : ∀ D H, I D s1 H → Q (.ref D) H) : itR [V.int n] H (LcW g tt te ws σ Q) := by
  obtain ⟨c, rfl⟩ := rngM_some hx
  refine ⟨n, rfl, c.1, c.2, lc_fol walk_range (by simp) hm I h0 (fun _ _ _ _ => True.intro) (fun D i x s s' hx hb hr w H H' hI hY => ?_) hd⟩
  obtain ⟨rfl, hw⟩ := hY
  have e : (0 : Int) + (i : Nat) = x := by
    rw [List.getElem?_map] at hx
    obtain ⟨k, h1, h2⟩ := Option.map_eq_some_iff.mp hx
    have := rng_at h1
    omega
  have e2 : w = .int x := by rw [hw, ← e]
  rw [e2]
  exact hs D i x s s' hb hr _ hI
theorem lc_R2 {f : τ → Int → Option τ} {xs : List Int} {lo n : Int} (hx : rng2M lo n = some xs) (hm : folM f xs s0 = some s1) (I : Addr → τ → Hp → Prop) (h0 : ∀ D, H D = none → I D s0 (upd H D (.lst [])))
    (hs : ∀ (D : Addr) (i : Nat) (x : Int) (s s' : τ), f s x = some s' → folM f (xs.drop (i + 1)) s' = some s1 → ∀ H, I D s H → g (.int x) (wipe σ ws) H (lcTurn tt te ws σ D (PvF f xs s1 (I D) (i + 1))))
    (hd : ∀ D H, I D s1 H → Q (.ref D) H) : itR2 [V.int lo, V.int n] H (LcW g tt te ws σ Q) := by
  obtain ⟨c, rfl⟩ := rng2M_some hx
  refine ⟨lo, n, rfl, c, lc_fol walk_range (by simp) hm I h0 (fun _ _ _ _ => True.intro) (fun D i x s s' hx hb hr w H H' hI hY => ?_) hd⟩
  obtain ⟨rfl, hw⟩ := hY
  have e : lo + (i : Nat) = x := by
    rw [List.getElem?_map] at hx
    obtain ⟨k, h1, h2⟩ := Option.map_eq_some_iff.mp hx
    have := rng_at h1
    omega
  have e2 : w = .int x := by rw [hw, ← e]
  rw [e2]
  exact hs D i x s s' hb hr _ hI
theorem lc_Eit {f : τ → Int × α → Option τ} {i1 i2 : Nat} {J : It} {vs : List V} (w : Walk J vs.length GW (YPair (fun i => some (.int (i : Nat))) (fun i => vs[i]?))) (ha : Al r G vs xs) (hm : folM f (enumM xs) s0 = some s1) (I : Addr → τ → Hp → Prop) (h0 : ∀ D, H D = none → I D s0 (upd H D (.lst []))) (hG : ∀ D s H, I D s H → GW H)
    (hs : ∀ (D : Addr) (i : Nat) (x : α) (s s' : τ), f s ((i : Int), x) = some s' → folM f ((enumM xs).drop (i + 1)) s' = some s1 → ∀ w H H', I D s H → (∀ G O, Sub G O H → Sub G O H') → r.rel G w x →
      lcTurn tt te ws σ D (PvF f (enumM xs) s1 (I D) (i + 1)) (((wipe σ ws).set i1 (some (.int (i : Int)))).set i2 (some w)) H')
    (hd : ∀ D H, I D s1 H → Q (.ref D) H) : LcW (gTup K 2 (gCons (gName i1) (gCons (gName i2) gNil))) tt te ws σ Q J H := by
  refine lc_fol w (by rw [enumM_length, ha.len]) hm I h0 hG (fun D i y s s' hx hb hr v H H' hI hY => ?_) hd
  rw [enumM_get] at hx
  obtain ⟨x, hx2, rfl⟩ := Option.map_eq_some_iff.mp hx
  obtain ⟨T, k, w, rfl, hT, rfl, hk, hw⟩ := hY
  cases hk
  exact ⟨T, _, rfl, .inl (.inl upd_same), rfl, _, _, rfl, _, _, rfl, rfl, hs D i x s s' hb hr w H _ hI (fun G O S => S.junk hT) (ha.at hx2 hw)⟩
theorem lc_EQ {f : τ → Int × α → Option τ} {i1 i2 : Nat} (S : Sub G O H) (h : (rQ K r).rel G v xs) (hm : folM f (enumM xs) s0 = some s1) (I : Addr → τ → Hp → Prop) (h0 : ∀ D, H D = none → I D s0 (upd H D (.lst []))) (hG : ∀ D s H, I D s H → Ext G H)
    (hs : ∀ (D : Addr) (i : Nat) (x : α) (s s' : τ), f s ((i : Int), x) = some s' → folM f ((enumM xs).drop (i + 1)) s' = some s1 → ∀ w H H', I D s H → (∀ G O, Sub G O H → Sub G O H') → r.rel G w x →
      lcTurn tt te ws σ D (PvF f (enumM xs) s1 (I D) (i + 1)) (((wipe σ ws).set i1 (some (.int (i : Int)))).set i2 (some w)) H')
    (hd : ∀ D H, I D s1 H → Q (.ref D) H) : itE K [v] H (LcW (gTup K 2 (gCons (gName i1) (gCons (gName i2) gNil))) tt te ws σ Q) := by
  obtain ⟨p, vs, rfl, hq, ha⟩ := h
  refine ⟨p, vs, rfl, ?_⟩
  rcases hq with hq | hq
  · exact .inl ⟨sqL_up S.ext hq, lc_Eit walk_enum ha hm I h0 (fun D s H hI => sqL_up (hG D s H hI) hq) hs hd⟩
  · exact .inr ⟨sqT_up S.ext hq, lc_Eit walk_enumT ha hm I h0 (fun D s H hI => sqT_up (hG D s H hI) hq) hs hd⟩
end
section
variable {α β τ : Type} {r : R β} {G H : Hp} {O : Own} {vs : List V} {D : Addr} {y : V} {b : β} {acc acc' : List β} {Nx : Hp → Prop}
theorem q_lcEl (S : Sub G ((D, .lst vs) :: O) H) (h : Al r G vs acc) (hy : r.rel G y b) (e : appM acc b = some acc') (q : ∀ H' w, Sub G ((D, .lst w) :: O) H' → Al r G w acc' → Nx H') : lcEl D Nx y H := by
  obtain ⟨c, rfl⟩ := appM_some e
  exact ⟨vs, S.head, szl (by rw [h.len]; exact c), q _ _ S.wr (h.snoc hy)⟩
end
end Mr

set_option Elab.async false
set_option linter.all false
set_option maxRecDepth 100000
/-! Mir3: chained comparisons, in. -/
namespace Mr
open PySem PySem.Spec PyProof.Rows L2
theorem un65 {k : Nat} {A : Around} (r : Room k A) : A.units + 65 < cLine := by have := r.un; omega
section
variable {ta tb tc te : TE} {σ : L2.St} {H : Hp} {Q : VK} {QB : Bool → Hp → Prop}
theorem gChain {r r' : R2} (h : ta σ H fun x H1 => tb σ H1 fun y H2 => r x y H2 fun z H3 => ∃ k, z = .bl k ∧ (if k = true then tc σ H3 fun w' H4 => r' y w' H4 Q else Q (.bl false) H3)) : tChain r r' ta tb tc σ H Q := h
end
section
variable {K : PySem.W.Frag} {α : Type} [DecidableEq α] {H : Hp} {v w : V} {x : α} {xs : List α} {Q : VK}
theorem any_mem (d : RD K α) (x : α) : ∀ xs : List α, ((xs.map d.enc).any fun z => PyData.eqv z (d.enc x)) = decide (x ∈ xs)
  | [] => by simp
  | y :: ys => by
    rw [List.map_cons, List.any_cons, any_mem d x ys, d.eqv]
    by_cases h : y = x
    · subst h; simp
    · have h' : ¬ x = y := fun e => h e.symm
      simp [h, h']
theorem q_inD (d : RD K α) (hd : d.dep + 1 ≤ 64) (h1 : d.r.rel H v x) (h2 : (rM d.r).rel H w xs) (o1 : d.ok x = true) (o2 : xs.all d.ok = true) (q : Q (.bl (decide (x ∈ xs))) H) : rInD K v w H Q :=
  ⟨d.enc x, xs.map d.enc, d.dp h1, (dM d).dp h2, d.shaped (by omega) o1, (dM d).shaped hd o2, by rw [any_mem]; exact q⟩
theorem q_niD (d : RD K α) (hd : d.dep + 1 ≤ 64) (h1 : d.r.rel H v x) (h2 : (rM d.r).rel H w xs) (o1 : d.ok x = true) (o2 : xs.all d.ok = true) (q : Q (.bl (!decide (x ∈ xs))) H) : rNotInD K v w H Q :=
  ⟨d.enc x, xs.map d.enc, d.dp h1, (dM d).dp h2, d.shaped (by omega) o1, (dM d).shaped hd o2, by rw [any_mem]; exact q⟩
end
/-! ### while -/
def PvW {σ ρ : Type} (f : σ → Option (Bf σ ρ)) (res : Fl σ ρ) (I : σ → L2.St → Hp → Prop) (n : Nat) : L2.St → Hp → Prop := fun σ' H => ∃ s, I s σ' H ∧ whL f n s = some res
theorem lp_W {τ ρ : Type} {f : τ → Option (Bf τ ρ)} {N : Nat} {s0 : τ} {res : Fl τ ρ} {c : TT} {tb : TS} {D : Ends} {σ : L2.St} {H : Hp} (hm : whL f N s0 = some res) (I : τ → L2.St → Hp → Prop) (h0 : I s0 σ H)
    (hs : ∀ (n : Nat) (s : τ) (b : Bf τ ρ), f s = some b → conW f n b = some res → ∀ σ H, I s σ H →
      c σ H fun t H1 => if t = true then ∃ N : L2.St → Hp → Prop, (∀ σ' H', N σ' H' → ∃ m', m' < n + 1 ∧ PvW f res I m' σ' H') ∧ tb { D with nx := N, ct := N, bk := D.nx } σ H1 else D.nx σ H1) : tWhile c tb D σ H := by
  refine ⟨fun m => PvW f res I m, ⟨N, s0, h0, hm⟩, fun m σ H hW => ?_⟩
  obtain ⟨s, hI, hf⟩ := hW
  cases m with
  | zero => cases hf
  | succ n =>
    rw [whL_succ] at hf
    obtain ⟨b, hb, hc⟩ := bindS hf
    exact hs n s b hb hc σ H hI
theorem whGo {τ ρ : Type} {f : τ → Option (Bf τ ρ)} {res : Fl τ ρ} {I : τ → L2.St → Hp → Prop} {n : Nat} {tb : TS} {D : Ends} {σ : L2.St} {H1 : Hp} (h : tb { D with nx := PvW f res I n, ct := PvW f res I n, bk := D.nx } σ H1) :
    ∃ N : L2.St → Hp → Prop, (∀ σ' H', N σ' H' → ∃ m', m' < n + 1 ∧ PvW f res I m' σ' H') ∧ tb { D with nx := N, ct := N, bk := D.nx } σ H1 := ⟨_, fun _ _ h => ⟨n, Nat.lt_succ_self n, h⟩, h⟩
end Mr

set_option linter.all false
set_option maxRecDepth 100000
set_option synthInstance.maxSize 4000
set_option synthInstance.maxHeartbeats 400000
namespace Mr
inductive Wd where
  | top | opn | kept
  deriving DecidableEq
def m_back_rows (offsets1 : (List Int)) : Option Int :=
  if (!(!offsets1.isEmpty)) then (some (0 : Int))
  else (Option.bind (getM offsets1 (-(1 : Int))) fun x1 =>
  some (x1 + (1 : Int)))

def m_staying_c1 (rows1 : Int) (r1 : Int) : ((List (Bool × Int))) → Int → Option ((List (Bool × Int))) := fun acc2 x1 => Option.bind (appM acc2 (false, ((rows1 - r1) + x1))) fun acc3 =>
  some acc3
def m_staying (rows1 : Int) (offsets1 : (List Int)) : Option (List (Bool × Int)) :=
  Option.bind (m_back_rows offsets1) fun r1 =>
  Option.bind (folM (m_staying_c1 rows1 r1) offsets1 ([] : (List (Bool × Int)))) fun acc1 =>
  some acc1

def m_going_over_c1 : ((List (Bool × Int))) → (Int × Int) → Option ((List (Bool × Int))) := fun s x => match s, x with
  | acc2, (k2, x1) => Option.bind (appM acc2 ((decide (k2 = (0 : Int))), x1)) fun acc3 =>
  some acc3
def m_going_over (offsets1 : (List Int)) : Option (List (Bool × Int)) :=
  Option.bind (folM (m_going_over_c1) (enumM offsets1) ([] : (List (Bool × Int)))) fun acc1 =>
  some acc1

def m_fitting (rows1 : Int) (offsets1 : (List Int)) (space1 : Int) (barred1 : Bool) : Option (Int × (List Int) × (List (Bool × Int))) :=
  if (!barred1) then (Option.bind (szM ([(0 : Int)] : List Int)) fun t1 =>
  Option.bind (m_staying rows1 offsets1) fun r1 =>
  some (((rows1 + space1) + (1 : Int)), t1, r1))
  else (if (!offsets1.isEmpty) then (Option.bind (getM offsets1 (-(1 : Int))) fun x1 =>
  Option.bind (szM (offsets1 ++ [((x1 + space1) + (1 : Int))])) fun t2 =>
  some (((rows1 + space1) + (1 : Int)), t2, ([] : List (Bool × Int))))
  else (Option.bind (szM ([] : List Int)) fun t3 =>
  some (((rows1 + space1) + (1 : Int)), t3, ([(false, (rows1 + space1))] : List (Bool × Int)))))

def m_side_line (length1 : Int) (side1 : (Int × (List Int))) (space1 : Int) (barred1 : Bool) : Option (Int × (List Int) × (List (Bool × Int))) :=
  if (decide (side1.1 = (0 : Int))) then (Option.bind (szM ([] : List Int)) fun t1 =>
  some ((1 : Int), t1, ([(true, (0 : Int))] : List (Bool × Int))))
  else (if (decide (((side1.1 + space1) + (1 : Int)) ≤ length1)) then (Option.bind (m_fitting side1.1 side1.2 space1 barred1) fun r1 =>
  some r1)
  else (if (!barred1) then (Option.bind (szM ([] : List Int)) fun t2 =>
  Option.bind (m_staying side1.1 side1.2) fun r2 =>
  Option.bind (catM r2 ([(true, (0 : Int))] : List (Bool × Int))) fun z1 =>
  some ((1 : Int), t2, z1))
  else (if (!(!side1.2.isEmpty)) then (Option.bind (szM ([] : List Int)) fun t3 =>
  some ((1 : Int), t3, ([(true, (0 : Int))] : List (Bool × Int))))
  else (Option.bind (m_going_over side1.2) fun r3 =>
  Option.bind (m_back_rows side1.2) fun r4 =>
  if (decide (((r4 + space1) + (1 : Int)) ≤ length1)) then (Option.bind (szM ([] : List Int)) fun t4 =>
  Option.bind (catM r3 ([(false, (r4 + space1))] : List (Bool × Int))) fun z2 =>
  some (((r4 + space1) + (1 : Int)), t4, z2))
  else (Option.bind (szM ([] : List Int)) fun t5 =>
  Option.bind (catM r3 ([(true, (0 : Int))] : List (Bool × Int))) fun z3 =>
  some ((1 : Int), t5, z3))))))

def m_close_side (length1 : Int) (side1 : (Int × (List Int))) (kept1 : Bool) : Option ((Wd × Int × Int) × (List Int) × (List (Bool × Int))) :=
  if kept1 then (if ((decide (side1.1 = length1)) && (!(!side1.2.isEmpty))) then (Option.bind (szM ([] : List Int)) fun t1 =>
  some ((Wd.top, (0 : Int), (0 : Int)), t1, ([] : List (Bool × Int))))
  else (Option.bind (m_back_rows side1.2) fun r1 =>
  some ((Wd.kept, side1.1, r1), side1.2, ([] : List (Bool × Int)))))
  else (Option.bind (m_staying side1.1 side1.2) fun r2 =>
  if (decide (side1.1 = length1)) then (Option.bind (szM ([] : List Int)) fun t2 =>
  some ((Wd.top, (0 : Int), (0 : Int)), t2, r2))
  else (Option.bind (szM ([] : List Int)) fun t3 =>
  some ((Wd.opn, side1.1, (0 : Int)), t3, r2)))

def m_fresh_side (standing1 : (Wd × Int × Int)) (offsets1 : (List Int)) : Option ((Wd × Int × Int) × (List Int) × (List (Bool × Int))) :=
  Option.bind (szM ([] : List Int)) fun t1 =>
  Option.bind (m_staying standing1.2.1 offsets1) fun r1 =>
  some ((Wd.top, (0 : Int), (0 : Int)), t1, r1)

def m_joint_begin  : Option (Option ((Wd × Int × Int) × (List Int) × (Wd × Int × Int) × (List Int) × (List (Bool × Int)))) :=
  Option.bind (szM ([] : List Int)) fun t1 =>
  Option.bind (szM ([] : List Int)) fun t2 =>
  Option.bind (szM ([] : List (Bool × Int))) fun t3 =>
  some (some ((Wd.top, (0 : Int), (0 : Int)), t1, (Wd.top, (0 : Int), (0 : Int)), t2, t3))

def m_matched_b1 (first1 : (List (Bool × Int))) (second1 : (List (Bool × Int))) : (Unit) → Int → Option (Bf (Unit) (Option (List (Bool × Int)))) := fun _ x1 => Option.bind (getM first1 x1) fun x2 =>
  Option.bind (getM second1 x1) fun x3 =>
  if (!decide (x2 = x3)) then (some (Bf.rt (none : (Option (List (Bool × Int))))))
  else (some (Bf.go ()))
def m_matched (first1 : (List (Bool × Int))) (second1 : (List (Bool × Int))) : Option (Option (List (Bool × Int))) :=
  Option.bind (rngM (if (second1.length : Int) < (first1.length : Int) then (second1.length : Int) else (first1.length : Int))) fun xs1 =>
  Option.bind (forL (m_matched_b1 first1 second1) xs1 ()) fun res => match res with
  | Fl.rt r => some r
  | Fl.nx _ => Option.bind (catM (cutM first1 (some (if (second1.length : Int) < (first1.length : Int) then (second1.length : Int) else (first1.length : Int))) none) (cutM second1 (some (if (second1.length : Int) < (first1.length : Int) then (second1.length : Int) else (first1.length : Int))) none)) fun z1 =>
  some (some z1)

def m_settled_lists (first1 : (List Int)) (second1 : (List Int)) (settled1 : (List (Bool × Int))) : Option ((List (Bool × Int)) × (List (Bool × Int))) :=
  if (decide ((first1.length : Int) < (second1.length : Int))) then (some (settled1, ([] : List (Bool × Int))))
  else (some (([] : List (Bool × Int)), settled1))

def m_merged (joint1 : ((Wd × Int × Int) × (List Int) × (Wd × Int × Int) × (List Int) × (List (Bool × Int)))) (first1 : ((Wd × Int × Int) × (List Int) × (List (Bool × Int)))) (second1 : ((Wd × Int × Int) × (List Int) × (List (Bool × Int)))) : Option (Option ((Wd × Int × Int) × (List Int) × (Wd × Int × Int) × (List Int) × (List (Bool × Int)))) :=
  Option.bind (m_settled_lists joint1.2.1 joint1.2.2.2.1 joint1.2.2.2.2) fun r1 =>
  Option.bind (catM r1.1 first1.2.2) fun z1 =>
  Option.bind (catM r1.2 second1.2.2) fun z2 =>
  Option.bind (m_matched z1 z2) fun r2 =>
  if (r2.isNone) then (some (none : (Option ((Wd × Int × Int) × (List Int) × (Wd × Int × Int) × (List Int) × (List (Bool × Int))))))
  else (Option.bind (r2) fun j1 =>
  some (some (first1.1, first1.2.1, second1.1, second1.2.1, j1)))

def m_merged__1 (joint1 : (Int × (List Int) × Int × (List Int) × (List (Bool × Int)))) (first1 : (Int × (List Int) × (List (Bool × Int)))) (second1 : (Int × (List Int) × (List (Bool × Int)))) : Option (Option (Int × (List Int) × Int × (List Int) × (List (Bool × Int)))) :=
  Option.bind (m_settled_lists joint1.2.1 joint1.2.2.2.1 joint1.2.2.2.2) fun r1 =>
  Option.bind (catM r1.1 first1.2.2) fun z1 =>
  Option.bind (catM r1.2 second1.2.2) fun z2 =>
  Option.bind (m_matched z1 z2) fun r2 =>
  if (r2.isNone) then (some (none : (Option (Int × (List Int) × Int × (List Int) × (List (Bool × Int))))))
  else (Option.bind (r2) fun j1 =>
  some (some (first1.1, first1.2.1, second1.1, second1.2.1, j1)))

def m_merged__2 (joint1 : (Int × (List Int) × Int × (List Int) × (List (Bool × Int)))) (first1 : ((Wd × Int × Int) × (List Int) × (List (Bool × Int)))) (second1 : ((Wd × Int × Int) × (List Int) × (List (Bool × Int)))) : Option (Option ((Wd × Int × Int) × (List Int) × (Wd × Int × Int) × (List Int) × (List (Bool × Int)))) :=
  Option.bind (m_settled_lists joint1.2.1 joint1.2.2.2.1 joint1.2.2.2.2) fun r1 =>
  Option.bind (catM r1.1 first1.2.2) fun z1 =>
  Option.bind (catM r1.2 second1.2.2) fun z2 =>
  Option.bind (m_matched z1 z2) fun r2 =>
  if (r2.isNone) then (some (none : (Option ((Wd × Int × Int) × (List Int) × (Wd × Int × Int) × (List Int) × (List (Bool × Int))))))
  else (Option.bind (r2) fun j1 =>
  some (some (first1.1, first1.2.1, second1.1, second1.2.1, j1)))

def m_joint_page (joint1 : (Option ((Wd × Int × Int) × (List Int) × (Wd × Int × Int) × (List Int) × (List (Bool × Int))))) (first1 : Bool) (second1 : Bool) : Option (Option ((Wd × Int × Int) × (List Int) × (Wd × Int × Int) × (List Int) × (List (Bool × Int)))) :=
  if (decide (joint1 = (none : (Option ((Wd × Int × Int) × (List Int) × (Wd × Int × Int) × (List Int) × (List (Bool × Int))))))) then (some (none : (Option ((Wd × Int × Int) × (List Int) × (Wd × Int × Int) × (List Int) × (List (Bool × Int))))))
  else (Option.bind (joint1) fun j1 =>
  Option.bind (joint1) fun j2 =>
  Option.bind (joint1) fun j3 =>
  Option.bind (joint1) fun j4 =>
  Option.bind (if first1 then (Option.bind (joint1) fun j7 =>
  Option.bind (joint1) fun j8 =>
  Option.bind (m_fresh_side j7.1 j8.2.1) fun r2 =>
  some r2)
  else (some (j1.1, j2.2.1, ([] : List (Bool × Int))))) fun one1 =>
  Option.bind (if second1 then (Option.bind (joint1) fun j11 =>
  Option.bind (joint1) fun j12 =>
  Option.bind (m_fresh_side j11.2.2.1 j12.2.2.2.1) fun r4 =>
  some r4)
  else (some (j3.2.2.1, j4.2.2.2.1, ([] : List (Bool × Int))))) fun two1 =>
  Option.bind (joint1) fun j13 =>
  Option.bind (m_merged j13 one1 two1) fun r5 =>
  some r5)

def m_joint_pages_of (joint1 : (Option ((Wd × Int × Int) × (List Int) × (Wd × Int × Int) × (List Int) × (List (Bool × Int))))) (first1 : (Int × Int × Int × Bool × Bool × Bool)) (second1 : (Int × Int × Int × Bool × Bool × Bool)) : Option (Option ((Wd × Int × Int) × (List Int) × (Wd × Int × Int) × (List Int) × (List (Bool × Int)))) :=
  Option.bind (m_joint_page joint1 (first1.2.2.2.2.1 && (!first1.2.2.2.2.2)) (second1.2.2.2.2.1 && (!second1.2.2.2.2.2))) fun r1 =>
  some r1

def m_inside (joint1 : ((Wd × Int × Int) × (List Int) × (Wd × Int × Int) × (List Int) × (List (Bool × Int)))) : Option (Int × (List Int) × Int × (List Int) × (List (Bool × Int))) :=
  some (joint1.1.2.1, joint1.2.1, joint1.2.2.1.2.1, joint1.2.2.2.1, joint1.2.2.2.2)

def m_joint_line (lengths1 : (Int × Int)) (within1 : (Option (Int × (List Int) × Int × (List Int) × (List (Bool × Int))))) (spaces1 : (Int × Int)) (barred1 : (Bool × Bool)) : Option (Option (Int × (List Int) × Int × (List Int) × (List (Bool × Int)))) :=
  if (decide (within1 = (none : (Option (Int × (List Int) × Int × (List Int) × (List (Bool × Int))))))) then (some (none : (Option (Int × (List Int) × Int × (List Int) × (List (Bool × Int))))))
  else (Option.bind (within1) fun j1 =>
  Option.bind (within1) fun j2 =>
  Option.bind (m_side_line lengths1.1 (j1.1, j2.2.1) spaces1.1 barred1.1) fun r1 =>
  Option.bind (within1) fun j3 =>
  Option.bind (within1) fun j4 =>
  Option.bind (m_side_line lengths1.2 (j3.2.2.1, j4.2.2.2.1) spaces1.2 barred1.2) fun r2 =>
  Option.bind (within1) fun j5 =>
  Option.bind (m_merged__1 j5 r1 r2) fun r3 =>
  some r3)

def m_joint_close (lengths1 : (Int × Int)) (within1 : (Option (Int × (List Int) × Int × (List Int) × (List (Bool × Int))))) (first1 : (Int × Int × Int × Bool × Bool × Bool)) (second1 : (Int × Int × Int × Bool × Bool × Bool)) : Option (Option ((Wd × Int × Int) × (List Int) × (Wd × Int × Int) × (List Int) × (List (Bool × Int)))) :=
  if (decide (within1 = (none : (Option (Int × (List Int) × Int × (List Int) × (List (Bool × Int))))))) then (some (none : (Option ((Wd × Int × Int) × (List Int) × (Wd × Int × Int) × (List Int) × (List (Bool × Int))))))
  else (Option.bind (within1) fun j1 =>
  Option.bind (within1) fun j2 =>
  Option.bind (m_close_side lengths1.1 (j1.1, j2.2.1) first1.2.2.2.1) fun r1 =>
  Option.bind (within1) fun j3 =>
  Option.bind (within1) fun j4 =>
  Option.bind (m_close_side lengths1.2 (j3.2.2.1, j4.2.2.2.1) second1.2.2.2.1) fun r2 =>
  Option.bind (within1) fun j5 =>
  Option.bind (m_merged__2 j5 r1 r2) fun r3 =>
  some r3)

def m_line_rules (joint1 : ((Wd × Int × Int) × (List Int) × (Wd × Int × Int) × (List Int) × (List (Bool × Int)))) (number1 : Int) (is_last1 : Bool) (first1 : (Int × Int × Int × Bool × Bool × Bool)) (second1 : (Int × Int × Int × Bool × Bool × Bool)) : Option ((Int × Int) × (Bool × Bool)) :=
  if (decide (number1 = (0 : Int))) then (some ((first1.2.2.1, second1.2.2.1), ((decide (joint1.1.1 = Wd.kept)), (decide (joint1.2.2.1.1 = Wd.kept)))))
  else (some (((0 : Int), (0 : Int)), (((decide (number1 = (1 : Int))) || is_last1), ((decide (number1 = (1 : Int))) || is_last1))))

def m_joint_lines_b1 (lengths1 : (Int × Int)) (joint1 : ((Wd × Int × Int) × (List Int) × (Wd × Int × Int) × (List Int) × (List (Bool × Int)))) (count1 : Int) (first1 : (Int × Int × Int × Bool × Bool × Bool)) (second1 : (Int × Int × Int × Bool × Bool × Bool)) : ((Option (Int × (List Int) × Int × (List Int) × (List (Bool × Int))))) → Int → Option ((Option (Int × (List Int) × Int × (List Int) × (List (Bool × Int))))) := fun within2 x1 => Option.bind (m_line_rules joint1 x1 (decide (x1 = (count1 - (1 : Int)))) first1 second1) fun r2 =>
  Option.bind (m_joint_line lengths1 within2 r2.1 r2.2) fun r3 =>
  some r3
def m_joint_lines (lengths1 : (Int × Int)) (joint1 : ((Wd × Int × Int) × (List Int) × (Wd × Int × Int) × (List Int) × (List (Bool × Int)))) (count1 : Int) (first1 : (Int × Int × Int × Bool × Bool × Bool)) (second1 : (Int × Int × Int × Bool × Bool × Bool)) : Option (Option ((Wd × Int × Int) × (List Int) × (Wd × Int × Int) × (List Int) × (List (Bool × Int)))) :=
  Option.bind (m_inside joint1) fun r1 =>
  Option.bind (rngM count1) fun xs1 =>
  Option.bind (folM (m_joint_lines_b1 lengths1 joint1 count1 first1 second1) xs1 (some r1)) fun within1 =>
  Option.bind (m_joint_close lengths1 within1 first1 second1) fun r4 =>
  some r4

def m_joint_block (lengths1 : (Int × Int)) (joint1 : (Option ((Wd × Int × Int) × (List Int) × (Wd × Int × Int) × (List Int) × (List (Bool × Int))))) (count1 : Int) (first1 : (Int × Int × Int × Bool × Bool × Bool)) (second1 : (Int × Int × Int × Bool × Bool × Bool)) : Option (Option ((Wd × Int × Int) × (List Int) × (Wd × Int × Int) × (List Int) × (List (Bool × Int)))) :=
  Option.bind (m_joint_pages_of joint1 first1 second1) fun r1 =>
  if ((decide (r1 = (none : (Option ((Wd × Int × Int) × (List Int) × (Wd × Int × Int) × (List Int) × (List (Bool × Int))))))) || ((decide (count1 = (0 : Int))) || (first1.2.2.2.2.2 && second1.2.2.2.2.2))) then (some r1)
  else (if (first1.2.2.2.2.2 || second1.2.2.2.2.2) then (some (none : (Option ((Wd × Int × Int) × (List Int) × (Wd × Int × Int) × (List Int) × (List (Bool × Int))))))
  else (Option.bind (r1) fun j1 =>
  Option.bind (m_joint_lines lengths1 j1 count1 first1 second1) fun r2 =>
  some r2))

def m_alike_at_end (joint1 : (Option ((Wd × Int × Int) × (List Int) × (Wd × Int × Int) × (List Int) × (List (Bool × Int))))) : Option Bool :=
  if (decide (joint1 = (none : (Option ((Wd × Int × Int) × (List Int) × (Wd × Int × Int) × (List Int) × (List (Bool × Int))))))) then (some false)
  else (Option.bind (joint1) fun j1 =>
  Option.bind (joint1) fun j2 =>
  Option.bind (joint1) fun j3 =>
  Option.bind (m_settled_lists j1.2.1 j2.2.2.2.1 j3.2.2.2.2) fun r1 =>
  Option.bind (joint1) fun j4 =>
  Option.bind (joint1) fun j5 =>
  Option.bind (m_staying j4.1.2.1 j5.2.1) fun r2 =>
  Option.bind (catM r1.1 r2) fun z1 =>
  Option.bind (joint1) fun j6 =>
  Option.bind (joint1) fun j7 =>
  Option.bind (m_staying j6.2.2.1.2.1 j7.2.2.2.1) fun r3 =>
  Option.bind (catM r1.2 r3) fun z2 =>
  Option.bind (m_matched z1 z2) fun r4 =>
  some (decide (r4 = (some [] : (Option (List (Bool × Int)))))))

def m_law_bag_b1 : (Int) → (Int × Int) → Option (Int) := fun s x => match s, x with
  | mixed2, (k3, x4) => some ((((mixed2 * (16807 : Int)) + (x4 % (2147483629 : Int))) + ((13 : Int) * k3)) % (2147483647 : Int))
def m_law_bag (script1 : (List Int)) (at1 : Int) : Option (List Int) :=
  Option.bind (if (decide (at1 < (script1.length : Int))) then (Option.bind (getM script1 at1) fun x1 =>
  some (if x1 < 0 then -x1 else x1)) else (some (0 : Int))) fun x2 =>
  Option.bind (folM (m_law_bag_b1) (enumM (cutM script1 none (some (63 : Int)))) ((1009 : Int) + ((77 : Int) * at1))) fun mixed1 =>
  some ([(if (decide (x2 ≥ ((10 : Int) ^ (18 : Int).toNat))) then x2 else (0 : Int)), mixed1, (0 : Int)] : List Int)

def m_law_draw (bag_here1 : (List Int)) (many1 : Int) : Option (Int × (List Int)) :=
  Option.bind (getM bag_here1 (0 : Int)) fun x1 =>
  if (decide (x1 > (0 : Int))) then (Option.bind (getM bag_here1 (0 : Int)) fun x2 =>
  Option.bind (modM x2 many1) fun x3 =>
  Option.bind (getM bag_here1 (0 : Int)) fun x4 =>
  Option.bind (fdivM x4 many1) fun x5 =>
  Option.bind (setM bag_here1 (0 : Int) x5) fun bag_here2 =>
  some (x3, bag_here2))
  else (Option.bind (getM bag_here1 (2 : Int)) fun x6 =>
  Option.bind (setM bag_here1 (2 : Int) (x6 + (1 : Int))) fun bag_here3 =>
  Option.bind (getM bag_here3 (1 : Int)) fun x7 =>
  Option.bind (getM bag_here3 (2 : Int)) fun x8 =>
  Option.bind (setM bag_here3 (1 : Int) ((((x7 * (48271 : Int)) + ((11 : Int) * x8)) + (7 : Int)) % (2147483647 : Int))) fun bag_here4 =>
  Option.bind (getM bag_here4 (1 : Int)) fun x9 =>
  Option.bind (getM bag_here4 (2 : Int)) fun x10 =>
  Option.bind (modM ((((x9 * (69621 : Int)) + ((4099 : Int) * x10)) % (2147483629 : Int)) / (128 : Int)) many1) fun x11 =>
  some (x11, bag_here4))

def m_law_values (bag_here1 : (List Int)) : Option ((Int × Int × Int × Bool × Bool × Bool) × (List Int)) :=
  Option.bind (m_law_draw bag_here1 (3 : Int)) fun (r1, bag_here2) =>
  Option.bind (m_law_draw bag_here2 (2 : Int)) fun (r2, bag_here3) =>
  Option.bind (m_law_draw bag_here3 (8 : Int)) fun (r3, bag_here4) =>
  Option.bind (m_law_draw bag_here4 (3 : Int)) fun (r4, bag_here5) =>
  Option.bind (m_law_draw bag_here5 (12 : Int)) fun (r5, bag_here6) =>
  some (((0 : Int), ((1 : Int) + r4), r1, (decide (r2 = (1 : Int))), (decide (r3 = (1 : Int))), (decide (r5 = (1 : Int)))), bag_here6)

def m_law_row_b1 (r1 : Int) : ((List Int) × (List (Int × (Int × Int × Int × Bool × Bool × Bool) × (Int × Int × Int × Bool × Bool × Bool)))) → Int → Option ((List Int) × (List (Int × (Int × Int × Int × Bool × Bool × Bool) × (Int × Int × Int × Bool × Bool × Bool)))) := fun s x1 => match s with
  | (bag_here4, row_here2) => Option.bind (Option.bind (m_law_draw bag_here4 (3 : Int)) fun (r2, bag_here5) =>
  if (decide (r2 = (0 : Int))) then (Option.bind (m_law_draw bag_here5 (7 : Int)) fun (r3, bag_here6) =>
  some (r3, bag_here6)) else (Option.bind (m_law_draw bag_here5 (3 : Int)) fun (r4, bag_here7) =>
  some (r4, bag_here7))) fun (x2, bag_here8) =>
  Option.bind (m_law_values bag_here8) fun (r8, bag_here12) =>
  Option.bind (Option.bind (m_law_draw bag_here12 (4 : Int)) fun (r11, bag_here16) =>
  if (decide (r11 < r1)) then (Option.bind (m_law_values bag_here16) fun (r12, bag_here17) =>
  some (bag_here17, r12))
  else (some (bag_here16, r8))) fun (bag_here15, second1) =>
  Option.bind (Option.bind (if (r8.2.2.2.2.2 != second1.2.2.2.2.2) then (Option.bind (m_law_draw bag_here15 (2 : Int)) fun (r15, bag_here22) =>
  some ((decide (r15 = (1 : Int))), bag_here22)) else some (false, bag_here15)) fun (x4, bag_here23) =>
  if x4 then (some (bag_here23, (0 : Int)))
  else (some (bag_here23, x2))) fun (bag_here21, count1) =>
  Option.bind (appM row_here2 (count1, r8, second1)) fun row_here3 =>
  some (bag_here21, row_here3)
def m_law_row (bag_here1 : (List Int)) (many1 : Int) : Option ((List (Int × (Int × Int × Int × Bool × Bool × Bool) × (Int × Int × Int × Bool × Bool × Bool))) × (List Int)) :=
  Option.bind (m_law_draw bag_here1 (3 : Int)) fun (r1, bag_here2) =>
  Option.bind (rngM many1) fun xs1 =>
  Option.bind (folM (m_law_row_b1 r1) xs1 (bag_here2, ([] : List (Int × (Int × Int × Int × Bool × Bool × Bool) × (Int × Int × Int × Bool × Bool × Bool))))) fun (bag_here3, row_here1) =>
  some (row_here1, bag_here3)

def m_law_lines_b2 (due2 : Bool) (kept2 : Bool) (x1 : (Int × (Int × Int × Int × Bool × Bool × Bool))) : ((List (Int × Bool × Bool))) → Int → Option ((List (Int × Bool × Bool))) := fun rows4 x2 => Option.bind (appM rows4 ((if (decide (x2 = (0 : Int))) then x1.2.2.2.1 else (0 : Int)), ((due2 || x1.2.2.2.2.2.1) && (decide (x2 = (0 : Int)))), (if (decide (x2 = (0 : Int))) then kept2 else ((decide (x2 = (1 : Int))) || (decide (x2 = (x1.1 - (1 : Int)))))))) fun rows5 =>
  some rows5
def m_law_lines_b1 : ((List (Int × Bool × Bool)) × Bool × Bool) → (Int × (Int × Int × Int × Bool × Bool × Bool)) → Option ((List (Int × Bool × Bool)) × Bool × Bool) := fun s x1 => match s with
  | (rows2, due2, kept2) => if x1.2.2.2.2.2.2 then (some (rows2, due2, kept2))
  else (Option.bind (rngM x1.1) fun xs1 =>
  Option.bind (folM (m_law_lines_b2 due2 kept2 x1) xs1 rows2) fun rows3 =>
  Option.bind (if (decide (x1.1 > (0 : Int))) then (some (false, x1.2.2.2.2.1))
  else (some ((due2 || x1.2.2.2.2.2.1), kept2))) fun (due3, kept3) =>
  some (rows3, due3, kept3))
def m_law_lines (blocks1 : (List (Int × (Int × Int × Int × Bool × Bool × Bool)))) : Option (List (Int × Bool × Bool)) :=
  Option.bind (folM (m_law_lines_b1) blocks1 (([] : List (Int × Bool × Bool)), false, false)) fun (rows1, due1, kept1) =>
  some rows1

def m_law_cut_b1 (length1 : Int) (rows1 : (List (Int × Bool × Bool))) : (Int × (Option Int)) → Int → Option (Bf (Int × (Option Int)) Int) := fun s x1 => match s with
  | (used2, last2) => Option.bind (getM rows1 x1) fun x2 =>
  if x2.2.1 then (some (Bf.rt x1))
  else (if (decide (((used2 + x2.1) + (1 : Int)) > length1)) then (if (!x2.2.2) then (some (Bf.rt x1))
  else (Option.bind (if (last2.isNone) then (some x1) else (Option.bind (last2) fun j1 =>
  some j1)) fun x3 =>
  some (Bf.rt x3)))
  else (Option.bind (if (!x2.2.2) then (some (some x1))
  else (some last2)) fun last3 =>
  some (Bf.go (((used2 + x2.1) + (1 : Int)), last3))))
def m_law_cut (length1 : Int) (rows1 : (List (Int × Bool × Bool))) (start1 : Int) : Option Int :=
  Option.bind (rng2M (start1 + (1 : Int)) (rows1.length : Int)) fun xs1 =>
  Option.bind (forL (m_law_cut_b1 length1 rows1) xs1 ((1 : Int), (none : (Option Int)))) fun res => match res with
  | Fl.rt r => some r
  | Fl.nx (used1, last1) => some (rows1.length : Int)

def m_law_places_b2 (rows1 : (List (Int × Bool × Bool))) (start2 : Int) : ((List (Bool × Int)) × Int) → Int → Option ((List (Bool × Int)) × Int) := fun s x1 => match s with
  | (places_here4, row_here2) => Option.bind (if (decide (x1 > start2)) then (Option.bind (getM rows1 x1) fun x3 =>
  some ((row_here2 + (1 : Int)) + x3.1))
  else (some row_here2)) fun row_here3 =>
  Option.bind (appM places_here4 ((decide (x1 = start2)), row_here3)) fun places_here5 =>
  some (places_here5, row_here3)
def m_law_places_b1 (length1 : Int) (rows1 : (List (Int × Bool × Bool))) : ((List (Bool × Int)) × Int) → Option (Bf ((List (Bool × Int)) × Int) (List (Bool × Int))) := fun s => match s with
  | (places_here2, start2) => if (decide (start2 < (rows1.length : Int))) then (Option.bind (m_law_cut length1 rows1 start2) fun r1 =>
  Option.bind (rng2M start2 r1) fun xs1 =>
  Option.bind (folM (m_law_places_b2 rows1 start2) xs1 (places_here2, (0 : Int))) fun (places_here3, row_here1) =>
  some (Bf.go (places_here3, r1)))
  else (some (Bf.bk (places_here2, start2)))
def m_law_places (length1 : Int) (rows1 : (List (Int × Bool × Bool))) : Option (List (Bool × Int)) :=
  Option.bind (whL (m_law_places_b1 length1 rows1) 1000000 (([] : List (Bool × Int)), (0 : Int))) fun res => match res with
  | Fl.rt r => some r
  | Fl.nx (places_here1, start1) => some places_here1

def m_law_by_block_b1 (r2 : (List (Bool × Int))) : ((List (List (Bool × Int))) × Int) → (Int × (Int × Int × Int × Bool × Bool × Bool)) → Option ((List (List (Bool × Int))) × Int) := fun s x1 => match s with
  | (told2, at2) => Option.bind (appM told2 (cutM r2 (some at2) (some (at2 + (if x1.2.2.2.2.2.2 then (0 : Int) else x1.1))))) fun told3 =>
  some (told3, (at2 + (if x1.2.2.2.2.2.2 then (0 : Int) else x1.1)))
def m_law_by_block (length1 : Int) (blocks1 : (List (Int × (Int × Int × Int × Bool × Bool × Bool)))) : Option (List (List (Bool × Int))) :=
  Option.bind (m_law_lines blocks1) fun r1 =>
  Option.bind (m_law_places length1 r1) fun r2 =>
  Option.bind (folM (m_law_by_block_b1 r2) blocks1 (([] : List (List (Bool × Int))), (0 : Int))) fun (told1, at1) =>
  some told1

def m_law_b1 (lengths1 : (Int × Int)) : ((Option ((Wd × Int × Int) × (List Int) × (Wd × Int × Int) × (List Int) × (List (Bool × Int))))) → (Int × (Int × Int × Int × Bool × Bool × Bool) × (Int × Int × Int × Bool × Bool × Bool)) → Option (Bf ((Option ((Wd × Int × Int) × (List Int) × (Wd × Int × Int) × (List Int) × (List (Bool × Int))))) Bool) := fun joint2 x1 => Option.bind (m_joint_block lengths1 joint2 x1.1 x1.2.1 x1.2.2) fun r13 =>
  if ((decide (joint2 = (none : (Option ((Wd × Int × Int) × (List Int) × (Wd × Int × Int) × (List Int) × (List (Bool × Int))))))) && (!decide (r13 = (none : (Option ((Wd × Int × Int) × (List Int) × (Wd × Int × Int) × (List Int) × (List (Bool × Int)))))))) then (some (Bf.rt false))
  else (some (Bf.go r13))
def m_law_c2 : ((List (Int × (Int × Int × Int × Bool × Bool × Bool)))) → (Int × (Int × Int × Int × Bool × Bool × Bool) × (Int × Int × Int × Bool × Bool × Bool)) → Option ((List (Int × (Int × Int × Int × Bool × Bool × Bool)))) := fun acc2 x2 => Option.bind (appM acc2 (x2.1, x2.2.1)) fun acc3 =>
  some acc3
def m_law_c3 : ((List (Int × (Int × Int × Int × Bool × Bool × Bool)))) → (Int × (Int × Int × Int × Bool × Bool × Bool) × (Int × Int × Int × Bool × Bool × Bool)) → Option ((List (Int × (Int × Int × Int × Bool × Bool × Bool)))) := fun acc5 x3 => Option.bind (appM acc5 (x3.1, x3.2.2)) fun acc6 =>
  some acc6
def m_law (script1 : (List Int)) : Option Bool :=
  Option.bind (m_law_bag script1 (0 : Int)) fun r1 =>
  Option.bind (m_law_draw r1 (3 : Int)) fun (r2, r3) =>
  Option.bind (m_law_draw r3 (3 : Int)) fun (r4, r5) =>
  Option.bind (Option.bind (m_law_draw r5 (3 : Int)) fun (r8, r9) =>
  if (decide (r8 > (0 : Int))) then (some (r9, ((((2 : Int) + r2), ((2 : Int) + r4)).1, (((2 : Int) + r2), ((2 : Int) + r4)).1)))
  else (some (r9, (((2 : Int) + r2), ((2 : Int) + r4))))) fun (bag_here1, lengths1) =>
  Option.bind (m_law_draw bag_here1 (9 : Int)) fun (r10, bag_here2) =>
  Option.bind (m_law_row bag_here2 ((1 : Int) + r10)) fun (r11, bag_here3) =>
  Option.bind (m_joint_begin) fun r12 =>
  Option.bind (forL (m_law_b1 lengths1) r11 r12) fun res => match res with
  | Fl.rt r => some r
  | Fl.nx joint1 => Option.bind (folM (m_law_c2) r11 ([] : (List (Int × (Int × Int × Int × Bool × Bool × Bool))))) fun acc1 =>
  Option.bind (m_law_by_block lengths1.1 acc1) fun r14 =>
  Option.bind (folM (m_law_c3) r11 ([] : (List (Int × (Int × Int × Int × Bool × Bool × Bool))))) fun acc4 =>
  Option.bind (m_law_by_block lengths1.2 acc4) fun r15 =>
  Option.bind (m_alike_at_end joint1) fun r16 =>
  some (true && (r16 == (decide (r14 = r15))))
end Mr

set_option Elab.async false
set_option linter.all false
set_option maxRecDepth 100000
set_option maxHeartbeats 4000000
set_option synthInstance.maxSize 4000
set_option synthInstance.maxHeartbeats 400000
namespace Mr
open PySem PySem.Spec PyProof.Rows L2
def top (i : Nat) : Stmt := PySem.Challenge.pw_pressalike_k44_joint_blocks_and_plain_pa.main.body.getD i (.Pass ⟨0, 0, 0, 0⟩)
abbrev s_back_rows : Stmt := top 1
abbrev s_staying : Stmt := top 2
abbrev s_going_over : Stmt := top 3
abbrev s_fitting : Stmt := top 4
abbrev s_side_line : Stmt := top 5
abbrev s_close_side : Stmt := top 6
abbrev s_fresh_side : Stmt := top 7
abbrev s_joint_begin : Stmt := top 10
abbrev s_matched : Stmt := top 11
abbrev s_settled_lists : Stmt := top 12
abbrev s_merged : Stmt := top 13
abbrev s_joint_page : Stmt := top 14
abbrev s_joint_pages_of : Stmt := top 15
abbrev s_inside : Stmt := top 16
abbrev s_joint_line : Stmt := top 17
abbrev s_joint_close : Stmt := top 18
abbrev s_line_rules : Stmt := top 19
abbrev s_joint_lines : Stmt := top 20
abbrev s_joint_block : Stmt := top 21
abbrev s_alike_at_end : Stmt := top 22
abbrev s_law_bag : Stmt := top 24
abbrev s_law_draw : Stmt := top 25
abbrev s_law_values : Stmt := top 27
abbrev s_law_row : Stmt := top 28
abbrev s_law_lines : Stmt := top 29
abbrev s_law_cut : Stmt := top 30
abbrev s_law_places : Stmt := top 31
abbrev s_law_by_block : Stmt := top 32
abbrev s_law : Stmt := top 33
def e_Wd : Wd → Str
  | .top => Str.ofString "top"
  | .opn => Str.ofString "open"
  | .kept => Str.ofString "kept"
theorem e_Wd_inj : ∀ x y, e_Wd x = e_Wd y → x = y := by
  intro x y h
  cases x <;> cases y <;> first | rfl | (exfalso; revert h; decide +kernel)
theorem e_Wd_ok : ∀ x, PyData.strOk (e_Wd x) = true := by
  intro x
  cases x <;> decide +kernel
structure Tx (K : PySem.W.Frag) (mg : Str → Option Value) where
  fd_back_rows : FuncData
  F_back_rows : FunD K "back_rows" "back_rows" (defArgs s_back_rows) (defBody s_back_rows) (defScope s_back_rows) [] [] (He.fAd K ("back_rows", none)) fd_back_rows
  g_back_rows : mg "back_rows" = some (.ref (He.fAd K ("back_rows", none)))
  b_back_rows : Binds K fd_back_rows ["offsets"] []
  fd_staying : FuncData
  F_staying : FunD K "staying" "staying" (defArgs s_staying) (defBody s_staying) (defScope s_staying) [] [] (He.fAd K ("staying", none)) fd_staying
  g_staying : mg "staying" = some (.ref (He.fAd K ("staying", none)))
  b_staying : Binds K fd_staying ["rows", "offsets"] []
  fd_going_over : FuncData
  F_going_over : FunD K "going_over" "going_over" (defArgs s_going_over) (defBody s_going_over) (defScope s_going_over) [] [] (He.fAd K ("going_over", none)) fd_going_over
  g_going_over : mg "going_over" = some (.ref (He.fAd K ("going_over", none)))
  b_going_over : Binds K fd_going_over ["offsets"] []
  fd_fitting : FuncData
  F_fitting : FunD K "fitting" "fitting" (defArgs s_fitting) (defBody s_fitting) (defScope s_fitting) [] [] (He.fAd K ("fitting", none)) fd_fitting
  g_fitting : mg "fitting" = some (.ref (He.fAd K ("fitting", none)))
  b_fitting : Binds K fd_fitting ["rows", "offsets", "space", "barred"] []
  fd_side_line : FuncData
  F_side_line : FunD K "side_line" "side_line" (defArgs s_side_line) (defBody s_side_line) (defScope s_side_line) [] [] (He.fAd K ("side_line", none)) fd_side_line
  g_side_line : mg "side_line" = some (.ref (He.fAd K ("side_line", none)))
  b_side_line : Binds K fd_side_line ["length", "side", "space", "barred"] []
  fd_close_side : FuncData
  F_close_side : FunD K "close_side" "close_side" (defArgs s_close_side) (defBody s_close_side) (defScope s_close_side) [] [] (He.fAd K ("close_side", none)) fd_close_side
  g_close_side : mg "close_side" = some (.ref (He.fAd K ("close_side", none)))
  b_close_side : Binds K fd_close_side ["length", "side", "kept"] []
  fd_fresh_side : FuncData
  F_fresh_side : FunD K "fresh_side" "fresh_side" (defArgs s_fresh_side) (defBody s_fresh_side) (defScope s_fresh_side) [] [] (He.fAd K ("fresh_side", none)) fd_fresh_side
  g_fresh_side : mg "fresh_side" = some (.ref (He.fAd K ("fresh_side", none)))
  b_fresh_side : Binds K fd_fresh_side ["standing", "offsets"] []
  fd_joint_begin : FuncData
  F_joint_begin : FunD K "joint_begin" "joint_begin" (defArgs s_joint_begin) (defBody s_joint_begin) (defScope s_joint_begin) [] [] (He.fAd K ("joint_begin", none)) fd_joint_begin
  g_joint_begin : mg "joint_begin" = some (.ref (He.fAd K ("joint_begin", none)))
  b_joint_begin : Binds K fd_joint_begin [] []
  fd_matched : FuncData
  F_matched : FunD K "matched" "matched" (defArgs s_matched) (defBody s_matched) (defScope s_matched) [] [] (He.fAd K ("matched", none)) fd_matched
  g_matched : mg "matched" = some (.ref (He.fAd K ("matched", none)))
  b_matched : Binds K fd_matched ["first", "second"] []
  fd_settled_lists : FuncData
  F_settled_lists : FunD K "settled_lists" "settled_lists" (defArgs s_settled_lists) (defBody s_settled_lists) (defScope s_settled_lists) [] [] (He.fAd K ("settled_lists", none)) fd_settled_lists
  g_settled_lists : mg "settled_lists" = some (.ref (He.fAd K ("settled_lists", none)))
  b_settled_lists : Binds K fd_settled_lists ["first", "second", "settled"] []
  fd_merged : FuncData
  F_merged : FunD K "merged" "merged" (defArgs s_merged) (defBody s_merged) (defScope s_merged) [] [] (He.fAd K ("merged", none)) fd_merged
  g_merged : mg "merged" = some (.ref (He.fAd K ("merged", none)))
  b_merged : Binds K fd_merged ["joint", "first", "second"] []
  fd_joint_page : FuncData
  F_joint_page : FunD K "joint_page" "joint_page" (defArgs s_joint_page) (defBody s_joint_page) (defScope s_joint_page) [] [] (He.fAd K ("joint_page", none)) fd_joint_page
  g_joint_page : mg "joint_page" = some (.ref (He.fAd K ("joint_page", none)))
  b_joint_page : Binds K fd_joint_page ["joint", "first", "second"] []
  fd_joint_pages_of : FuncData
  F_joint_pages_of : FunD K "joint_pages_of" "joint_pages_of" (defArgs s_joint_pages_of) (defBody s_joint_pages_of) (defScope s_joint_pages_of) [] [] (He.fAd K ("joint_pages_of", none)) fd_joint_pages_of
  g_joint_pages_of : mg "joint_pages_of" = some (.ref (He.fAd K ("joint_pages_of", none)))
  b_joint_pages_of : Binds K fd_joint_pages_of ["joint", "first", "second"] []
  fd_inside : FuncData
  F_inside : FunD K "inside" "inside" (defArgs s_inside) (defBody s_inside) (defScope s_inside) [] [] (He.fAd K ("inside", none)) fd_inside
  g_inside : mg "inside" = some (.ref (He.fAd K ("inside", none)))
  b_inside : Binds K fd_inside ["joint"] []
  fd_joint_line : FuncData
  F_joint_line : FunD K "joint_line" "joint_line" (defArgs s_joint_line) (defBody s_joint_line) (defScope s_joint_line) [] [] (He.fAd K ("joint_line", none)) fd_joint_line
  g_joint_line : mg "joint_line" = some (.ref (He.fAd K ("joint_line", none)))
  b_joint_line : Binds K fd_joint_line ["lengths", "within", "spaces", "barred"] []
  fd_joint_close : FuncData
  F_joint_close : FunD K "joint_close" "joint_close" (defArgs s_joint_close) (defBody s_joint_close) (defScope s_joint_close) [] [] (He.fAd K ("joint_close", none)) fd_joint_close
  g_joint_close : mg "joint_close" = some (.ref (He.fAd K ("joint_close", none)))
  b_joint_close : Binds K fd_joint_close ["lengths", "within", "first", "second"] []
  fd_line_rules : FuncData
  F_line_rules : FunD K "line_rules" "line_rules" (defArgs s_line_rules) (defBody s_line_rules) (defScope s_line_rules) [] [] (He.fAd K ("line_rules", none)) fd_line_rules
  g_line_rules : mg "line_rules" = some (.ref (He.fAd K ("line_rules", none)))
  b_line_rules : Binds K fd_line_rules ["joint", "number", "is_last", "first", "second"] []
  fd_joint_lines : FuncData
  F_joint_lines : FunD K "joint_lines" "joint_lines" (defArgs s_joint_lines) (defBody s_joint_lines) (defScope s_joint_lines) [] [] (He.fAd K ("joint_lines", none)) fd_joint_lines
  g_joint_lines : mg "joint_lines" = some (.ref (He.fAd K ("joint_lines", none)))
  b_joint_lines : Binds K fd_joint_lines ["lengths", "joint", "count", "first", "second"] []
  fd_joint_block : FuncData
  F_joint_block : FunD K "joint_block" "joint_block" (defArgs s_joint_block) (defBody s_joint_block) (defScope s_joint_block) [] [] (He.fAd K ("joint_block", none)) fd_joint_block
  g_joint_block : mg "joint_block" = some (.ref (He.fAd K ("joint_block", none)))
  b_joint_block : Binds K fd_joint_block ["lengths", "joint", "count", "first", "second"] []
  fd_alike_at_end : FuncData
  F_alike_at_end : FunD K "alike_at_end" "alike_at_end" (defArgs s_alike_at_end) (defBody s_alike_at_end) (defScope s_alike_at_end) [] [] (He.fAd K ("alike_at_end", none)) fd_alike_at_end
  g_alike_at_end : mg "alike_at_end" = some (.ref (He.fAd K ("alike_at_end", none)))
  b_alike_at_end : Binds K fd_alike_at_end ["joint"] []
  fd_law_bag : FuncData
  F_law_bag : FunD K "_law_bag" "_law_bag" (defArgs s_law_bag) (defBody s_law_bag) (defScope s_law_bag) [] [] (He.fAd K ("_law_bag", none)) fd_law_bag
  g_law_bag : mg "_law_bag" = some (.ref (He.fAd K ("_law_bag", none)))
  b_law_bag : Binds K fd_law_bag ["_law_script", "_law_at"] []
  fd_law_draw : FuncData
  F_law_draw : FunD K "_law_draw" "_law_draw" (defArgs s_law_draw) (defBody s_law_draw) (defScope s_law_draw) [] [] (He.fAd K ("_law_draw", none)) fd_law_draw
  g_law_draw : mg "_law_draw" = some (.ref (He.fAd K ("_law_draw", none)))
  b_law_draw : Binds K fd_law_draw ["_law_bag_here", "_law_many"] []
  fd_law_values : FuncData
  F_law_values : FunD K "_law_values" "_law_values" (defArgs s_law_values) (defBody s_law_values) (defScope s_law_values) [] [] (He.fAd K ("_law_values", none)) fd_law_values
  g_law_values : mg "_law_values" = some (.ref (He.fAd K ("_law_values", none)))
  b_law_values : Binds K fd_law_values ["_law_bag_here"] []
  fd_law_row : FuncData
  F_law_row : FunD K "_law_row" "_law_row" (defArgs s_law_row) (defBody s_law_row) (defScope s_law_row) [] [] (He.fAd K ("_law_row", none)) fd_law_row
  g_law_row : mg "_law_row" = some (.ref (He.fAd K ("_law_row", none)))
  b_law_row : Binds K fd_law_row ["_law_bag_here", "_law_many"] []
  fd_law_lines : FuncData
  F_law_lines : FunD K "_law_lines" "_law_lines" (defArgs s_law_lines) (defBody s_law_lines) (defScope s_law_lines) [] [] (He.fAd K ("_law_lines", none)) fd_law_lines
  g_law_lines : mg "_law_lines" = some (.ref (He.fAd K ("_law_lines", none)))
  b_law_lines : Binds K fd_law_lines ["_law_blocks"] []
  fd_law_cut : FuncData
  F_law_cut : FunD K "_law_cut" "_law_cut" (defArgs s_law_cut) (defBody s_law_cut) (defScope s_law_cut) [] [] (He.fAd K ("_law_cut", none)) fd_law_cut
  g_law_cut : mg "_law_cut" = some (.ref (He.fAd K ("_law_cut", none)))
  b_law_cut : Binds K fd_law_cut ["_law_length", "_law_rows", "_law_start"] []
  fd_law_places : FuncData
  F_law_places : FunD K "_law_places" "_law_places" (defArgs s_law_places) (defBody s_law_places) (defScope s_law_places) [] [] (He.fAd K ("_law_places", none)) fd_law_places
  g_law_places : mg "_law_places" = some (.ref (He.fAd K ("_law_places", none)))
  b_law_places : Binds K fd_law_places ["_law_length", "_law_rows"] []
  fd_law_by_block : FuncData
  F_law_by_block : FunD K "_law_by_block" "_law_by_block" (defArgs s_law_by_block) (defBody s_law_by_block) (defScope s_law_by_block) [] [] (He.fAd K ("_law_by_block", none)) fd_law_by_block
  g_law_by_block : mg "_law_by_block" = some (.ref (He.fAd K ("_law_by_block", none)))
  b_law_by_block : Binds K fd_law_by_block ["_law_length", "_law_blocks"] []
  fd_law : FuncData
  F_law : FunD K "law" "law" (defArgs s_law) (defBody s_law) (defScope s_law) [] [] (He.fAd K ("law", none)) fd_law
  g_law : mg "law" = some (.ref (He.fAd K ("law", none)))
  b_law : Binds K fd_law ["_law_script"] []
  z_abs : mg "abs" = none
  z_bool : mg "bool" = none
  z_enumerate : mg "enumerate" = none
  z_int : mg "int" = none
  z_isinstance : mg "isinstance" = none
  z_len : mg "len" = none
  z_list : mg "list" = none
  z_min : mg "min" = none
  z_range : mg "range" = none
  z_tuple : mg "tuple" = none
  c_PARTED : ∃ t, mg "PARTED" = some (.str (Str.ofString "parted") t)
def sp_back_rows (K : PySem.W.Frag) : Sp := fun vs H Q _ => ∃ (G : Hp) (O : Own) (v1 : V) (offsets1 : (List Int)), vs = [v1] ∧ Sub G (O) H ∧ R.rel (rT K rInt) G v1 offsets1 ∧ ∃ res, m_back_rows offsets1 = some res ∧
  ∀ (G' H' : Hp), Ext G G' → Sub G' (O) H' → Q (V.int res) H'
def sp_staying (K : PySem.W.Frag) : Sp := fun vs H Q _ => ∃ (G : Hp) (O : Own) (rows1 : Int) (v1 : V) (offsets1 : (List Int)), vs = [(V.int rows1), v1] ∧ Sub G (O) H ∧ R.rel (rT K rInt) G v1 offsets1 ∧ ∃ res, m_staying rows1 offsets1 = some res ∧
  ∀ (v : V) (G' H' : Hp), Ext G G' → Sub G' (O) H' → R.rel (rM (rP2 K rBool rInt)) G' v res → Q v H'
def sp_going_over (K : PySem.W.Frag) : Sp := fun vs H Q _ => ∃ (G : Hp) (O : Own) (v1 : V) (offsets1 : (List Int)), vs = [v1] ∧ Sub G (O) H ∧ R.rel (rT K rInt) G v1 offsets1 ∧ ∃ res, m_going_over offsets1 = some res ∧
  ∀ (v : V) (G' H' : Hp), Ext G G' → Sub G' (O) H' → R.rel (rM (rP2 K rBool rInt)) G' v res → Q v H'
def sp_fitting (K : PySem.W.Frag) : Sp := fun vs H Q _ => ∃ (G : Hp) (O : Own) (rows1 : Int) (v1 : V) (offsets1 : (List Int)) (space1 : Int) (barred1 : Bool), vs = [(V.int rows1), v1, (V.int space1), (V.bl barred1)] ∧ Sub G (O) H ∧ R.rel (rT K rInt) G v1 offsets1 ∧ ∃ res, m_fitting rows1 offsets1 space1 barred1 = some res ∧
  ∀ (v : V) (G' H' : Hp), Ext G G' → Sub G' (O) H' → R.rel (rP3 K rInt (rT K rInt) (rM (rP2 K rBool rInt))) G' v res → Q v H'
def sp_side_line (K : PySem.W.Frag) : Sp := fun vs H Q _ => ∃ (G : Hp) (O : Own) (length1 : Int) (v1 : V) (side1 : (Int × (List Int))) (space1 : Int) (barred1 : Bool), vs = [(V.int length1), v1, (V.int space1), (V.bl barred1)] ∧ Sub G (O) H ∧ R.rel (rP2 K rInt (rT K rInt)) G v1 side1 ∧ ∃ res, m_side_line length1 side1 space1 barred1 = some res ∧
  ∀ (v : V) (G' H' : Hp), Ext G G' → Sub G' (O) H' → R.rel (rP3 K rInt (rT K rInt) (rM (rP2 K rBool rInt))) G' v res → Q v H'
def sp_close_side (K : PySem.W.Frag) : Sp := fun vs H Q _ => ∃ (G : Hp) (O : Own) (length1 : Int) (v1 : V) (side1 : (Int × (List Int))) (kept1 : Bool), vs = [(V.int length1), v1, (V.bl kept1)] ∧ Sub G (O) H ∧ R.rel (rP2 K rInt (rT K rInt)) G v1 side1 ∧ ∃ res, m_close_side length1 side1 kept1 = some res ∧
  ∀ (v : V) (G' H' : Hp), Ext G G' → Sub G' (O) H' → R.rel (rP3 K (rP3 K (rEn e_Wd) rInt rInt) (rT K rInt) (rM (rP2 K rBool rInt))) G' v res → Q v H'
def sp_fresh_side (K : PySem.W.Frag) : Sp := fun vs H Q _ => ∃ (G : Hp) (O : Own) (v1 : V) (standing1 : (Wd × Int × Int)) (v2 : V) (offsets1 : (List Int)), vs = [v1, v2] ∧ Sub G (O) H ∧ R.rel (rP3 K (rEn e_Wd) rInt rInt) G v1 standing1 ∧ R.rel (rT K rInt) G v2 offsets1 ∧ ∃ res, m_fresh_side standing1 offsets1 = some res ∧
  ∀ (v : V) (G' H' : Hp), Ext G G' → Sub G' (O) H' → R.rel (rP3 K (rP3 K (rEn e_Wd) rInt rInt) (rT K rInt) (rM (rP2 K rBool rInt))) G' v res → Q v H'
def sp_joint_begin (K : PySem.W.Frag) : Sp := fun vs H Q _ => ∃ (G : Hp) (O : Own) , vs = [] ∧ Sub G (O) H ∧ ∃ res, m_joint_begin  = some res ∧
  ∀ (v : V) (G' H' : Hp), Ext G G' → Sub G' (O) H' → R.rel (rA (Str.ofString "parted") (rP5 K (rP3 K (rEn e_Wd) rInt rInt) (rT K rInt) (rP3 K (rEn e_Wd) rInt rInt) (rT K rInt) (rT K (rP2 K rBool rInt)))) G' v res → Q v H'
def sp_matched (K : PySem.W.Frag) : Sp := fun vs H Q _ => ∃ (G : Hp) (O : Own) (v1 : V) (first1 : (List (Bool × Int))) (v2 : V) (second1 : (List (Bool × Int))), vs = [v1, v2] ∧ Sub G (O) H ∧ R.rel (rM (rP2 K rBool rInt)) G v1 first1 ∧ R.rel (rM (rP2 K rBool rInt)) G v2 second1 ∧ ∃ res, m_matched first1 second1 = some res ∧
  ∀ (v : V) (G' H' : Hp), Ext G G' → Sub G' (O) H' → R.rel (rO (rT K (rP2 K rBool rInt))) G' v res → Q v H'
def sp_settled_lists (K : PySem.W.Frag) : Sp := fun vs H Q _ => ∃ (G : Hp) (O : Own) (v1 : V) (first1 : (List Int)) (v2 : V) (second1 : (List Int)) (v3 : V) (settled1 : (List (Bool × Int))), vs = [v1, v2, v3] ∧ Sub G (O) H ∧ R.rel (rT K rInt) G v1 first1 ∧ R.rel (rT K rInt) G v2 second1 ∧ R.rel (rT K (rP2 K rBool rInt)) G v3 settled1 ∧ ∃ res, m_settled_lists first1 second1 settled1 = some res ∧
  ∀ (v : V) (G' H' : Hp), Ext G G' → Sub G' (O) H' → R.rel (rP2 K (rM (rP2 K rBool rInt)) (rM (rP2 K rBool rInt))) G' v res → Q v H'
def sp_merged (K : PySem.W.Frag) : Sp := fun vs H Q _ => ∃ (G : Hp) (O : Own) (v1 : V) (joint1 : ((Wd × Int × Int) × (List Int) × (Wd × Int × Int) × (List Int) × (List (Bool × Int)))) (v2 : V) (first1 : ((Wd × Int × Int) × (List Int) × (List (Bool × Int)))) (v3 : V) (second1 : ((Wd × Int × Int) × (List Int) × (List (Bool × Int)))), vs = [v1, v2, v3] ∧ Sub G (O) H ∧ R.rel (rP5 K (rP3 K (rEn e_Wd) rInt rInt) (rT K rInt) (rP3 K (rEn e_Wd) rInt rInt) (rT K rInt) (rT K (rP2 K rBool rInt))) G v1 joint1 ∧ R.rel (rP3 K (rP3 K (rEn e_Wd) rInt rInt) (rT K rInt) (rM (rP2 K rBool rInt))) G v2 first1 ∧ R.rel (rP3 K (rP3 K (rEn e_Wd) rInt rInt) (rT K rInt) (rM (rP2 K rBool rInt))) G v3 second1 ∧ ∃ res, m_merged joint1 first1 second1 = some res ∧
  ∀ (v : V) (G' H' : Hp), Ext G G' → Sub G' (O) H' → R.rel (rA (Str.ofString "parted") (rP5 K (rP3 K (rEn e_Wd) rInt rInt) (rT K rInt) (rP3 K (rEn e_Wd) rInt rInt) (rT K rInt) (rT K (rP2 K rBool rInt)))) G' v res → Q v H'
def sp_merged__1 (K : PySem.W.Frag) : Sp := fun vs H Q _ => ∃ (G : Hp) (O : Own) (v1 : V) (joint1 : (Int × (List Int) × Int × (List Int) × (List (Bool × Int)))) (v2 : V) (first1 : (Int × (List Int) × (List (Bool × Int)))) (v3 : V) (second1 : (Int × (List Int) × (List (Bool × Int)))), vs = [v1, v2, v3] ∧ Sub G (O) H ∧ R.rel (rP5 K rInt (rT K rInt) rInt (rT K rInt) (rT K (rP2 K rBool rInt))) G v1 joint1 ∧ R.rel (rP3 K rInt (rT K rInt) (rM (rP2 K rBool rInt))) G v2 first1 ∧ R.rel (rP3 K rInt (rT K rInt) (rM (rP2 K rBool rInt))) G v3 second1 ∧ ∃ res, m_merged__1 joint1 first1 second1 = some res ∧
  ∀ (v : V) (G' H' : Hp), Ext G G' → Sub G' (O) H' → R.rel (rA (Str.ofString "parted") (rP5 K rInt (rT K rInt) rInt (rT K rInt) (rT K (rP2 K rBool rInt)))) G' v res → Q v H'
def sp_merged__2 (K : PySem.W.Frag) : Sp := fun vs H Q _ => ∃ (G : Hp) (O : Own) (v1 : V) (joint1 : (Int × (List Int) × Int × (List Int) × (List (Bool × Int)))) (v2 : V) (first1 : ((Wd × Int × Int) × (List Int) × (List (Bool × Int)))) (v3 : V) (second1 : ((Wd × Int × Int) × (List Int) × (List (Bool × Int)))), vs = [v1, v2, v3] ∧ Sub G (O) H ∧ R.rel (rP5 K rInt (rT K rInt) rInt (rT K rInt) (rT K (rP2 K rBool rInt))) G v1 joint1 ∧ R.rel (rP3 K (rP3 K (rEn e_Wd) rInt rInt) (rT K rInt) (rM (rP2 K rBool rInt))) G v2 first1 ∧ R.rel (rP3 K (rP3 K (rEn e_Wd) rInt rInt) (rT K rInt) (rM (rP2 K rBool rInt))) G v3 second1 ∧ ∃ res, m_merged__2 joint1 first1 second1 = some res ∧
  ∀ (v : V) (G' H' : Hp), Ext G G' → Sub G' (O) H' → R.rel (rA (Str.ofString "parted") (rP5 K (rP3 K (rEn e_Wd) rInt rInt) (rT K rInt) (rP3 K (rEn e_Wd) rInt rInt) (rT K rInt) (rT K (rP2 K rBool rInt)))) G' v res → Q v H'
def sp_joint_page (K : PySem.W.Frag) : Sp := fun vs H Q _ => ∃ (G : Hp) (O : Own) (v1 : V) (joint1 : (Option ((Wd × Int × Int) × (List Int) × (Wd × Int × Int) × (List Int) × (List (Bool × Int))))) (first1 : Bool) (second1 : Bool), vs = [v1, (V.bl first1), (V.bl second1)] ∧ Sub G (O) H ∧ R.rel (rA (Str.ofString "parted") (rP5 K (rP3 K (rEn e_Wd) rInt rInt) (rT K rInt) (rP3 K (rEn e_Wd) rInt rInt) (rT K rInt) (rT K (rP2 K rBool rInt)))) G v1 joint1 ∧ ∃ res, m_joint_page joint1 first1 second1 = some res ∧
  ∀ (v : V) (G' H' : Hp), Ext G G' → Sub G' (O) H' → R.rel (rA (Str.ofString "parted") (rP5 K (rP3 K (rEn e_Wd) rInt rInt) (rT K rInt) (rP3 K (rEn e_Wd) rInt rInt) (rT K rInt) (rT K (rP2 K rBool rInt)))) G' v res → Q v H'
def sp_joint_pages_of (K : PySem.W.Frag) : Sp := fun vs H Q _ => ∃ (G : Hp) (O : Own) (v1 : V) (joint1 : (Option ((Wd × Int × Int) × (List Int) × (Wd × Int × Int) × (List Int) × (List (Bool × Int))))) (v2 : V) (first1 : (Int × Int × Int × Bool × Bool × Bool)) (v3 : V) (second1 : (Int × Int × Int × Bool × Bool × Bool)), vs = [v1, v2, v3] ∧ Sub G (O) H ∧ R.rel (rA (Str.ofString "parted") (rP5 K (rP3 K (rEn e_Wd) rInt rInt) (rT K rInt) (rP3 K (rEn e_Wd) rInt rInt) (rT K rInt) (rT K (rP2 K rBool rInt)))) G v1 joint1 ∧ R.rel (rP6 K rInt rInt rInt rBool rBool rBool) G v2 first1 ∧ R.rel (rP6 K rInt rInt rInt rBool rBool rBool) G v3 second1 ∧ ∃ res, m_joint_pages_of joint1 first1 second1 = some res ∧
  ∀ (v : V) (G' H' : Hp), Ext G G' → Sub G' (O) H' → R.rel (rA (Str.ofString "parted") (rP5 K (rP3 K (rEn e_Wd) rInt rInt) (rT K rInt) (rP3 K (rEn e_Wd) rInt rInt) (rT K rInt) (rT K (rP2 K rBool rInt)))) G' v res → Q v H'
def sp_inside (K : PySem.W.Frag) : Sp := fun vs H Q _ => ∃ (G : Hp) (O : Own) (v1 : V) (joint1 : ((Wd × Int × Int) × (List Int) × (Wd × Int × Int) × (List Int) × (List (Bool × Int)))), vs = [v1] ∧ Sub G (O) H ∧ R.rel (rP5 K (rP3 K (rEn e_Wd) rInt rInt) (rT K rInt) (rP3 K (rEn e_Wd) rInt rInt) (rT K rInt) (rT K (rP2 K rBool rInt))) G v1 joint1 ∧ ∃ res, m_inside joint1 = some res ∧
  ∀ (v : V) (G' H' : Hp), Ext G G' → Sub G' (O) H' → R.rel (rP5 K rInt (rT K rInt) rInt (rT K rInt) (rT K (rP2 K rBool rInt))) G' v res → Q v H'
def sp_joint_line (K : PySem.W.Frag) : Sp := fun vs H Q _ => ∃ (G : Hp) (O : Own) (v1 : V) (lengths1 : (Int × Int)) (v2 : V) (within1 : (Option (Int × (List Int) × Int × (List Int) × (List (Bool × Int))))) (v3 : V) (spaces1 : (Int × Int)) (v4 : V) (barred1 : (Bool × Bool)), vs = [v1, v2, v3, v4] ∧ Sub G (O) H ∧ R.rel (rP2 K rInt rInt) G v1 lengths1 ∧ R.rel (rA (Str.ofString "parted") (rP5 K rInt (rT K rInt) rInt (rT K rInt) (rT K (rP2 K rBool rInt)))) G v2 within1 ∧ R.rel (rP2 K rInt rInt) G v3 spaces1 ∧ R.rel (rP2 K rBool rBool) G v4 barred1 ∧ ∃ res, m_joint_line lengths1 within1 spaces1 barred1 = some res ∧
  ∀ (v : V) (G' H' : Hp), Ext G G' → Sub G' (O) H' → R.rel (rA (Str.ofString "parted") (rP5 K rInt (rT K rInt) rInt (rT K rInt) (rT K (rP2 K rBool rInt)))) G' v res → Q v H'
def sp_joint_close (K : PySem.W.Frag) : Sp := fun vs H Q _ => ∃ (G : Hp) (O : Own) (v1 : V) (lengths1 : (Int × Int)) (v2 : V) (within1 : (Option (Int × (List Int) × Int × (List Int) × (List (Bool × Int))))) (v3 : V) (first1 : (Int × Int × Int × Bool × Bool × Bool)) (v4 : V) (second1 : (Int × Int × Int × Bool × Bool × Bool)), vs = [v1, v2, v3, v4] ∧ Sub G (O) H ∧ R.rel (rP2 K rInt rInt) G v1 lengths1 ∧ R.rel (rA (Str.ofString "parted") (rP5 K rInt (rT K rInt) rInt (rT K rInt) (rT K (rP2 K rBool rInt)))) G v2 within1 ∧ R.rel (rP6 K rInt rInt rInt rBool rBool rBool) G v3 first1 ∧ R.rel (rP6 K rInt rInt rInt rBool rBool rBool) G v4 second1 ∧ ∃ res, m_joint_close lengths1 within1 first1 second1 = some res ∧
  ∀ (v : V) (G' H' : Hp), Ext G G' → Sub G' (O) H' → R.rel (rA (Str.ofString "parted") (rP5 K (rP3 K (rEn e_Wd) rInt rInt) (rT K rInt) (rP3 K (rEn e_Wd) rInt rInt) (rT K rInt) (rT K (rP2 K rBool rInt)))) G' v res → Q v H'
def sp_line_rules (K : PySem.W.Frag) : Sp := fun vs H Q _ => ∃ (G : Hp) (O : Own) (v1 : V) (joint1 : ((Wd × Int × Int) × (List Int) × (Wd × Int × Int) × (List Int) × (List (Bool × Int)))) (number1 : Int) (is_last1 : Bool) (v2 : V) (first1 : (Int × Int × Int × Bool × Bool × Bool)) (v3 : V) (second1 : (Int × Int × Int × Bool × Bool × Bool)), vs = [v1, (V.int number1), (V.bl is_last1), v2, v3] ∧ Sub G (O) H ∧ R.rel (rP5 K (rP3 K (rEn e_Wd) rInt rInt) (rT K rInt) (rP3 K (rEn e_Wd) rInt rInt) (rT K rInt) (rT K (rP2 K rBool rInt))) G v1 joint1 ∧ R.rel (rP6 K rInt rInt rInt rBool rBool rBool) G v2 first1 ∧ R.rel (rP6 K rInt rInt rInt rBool rBool rBool) G v3 second1 ∧ ∃ res, m_line_rules joint1 number1 is_last1 first1 second1 = some res ∧
  ∀ (v : V) (G' H' : Hp), Ext G G' → Sub G' (O) H' → R.rel (rP2 K (rP2 K rInt rInt) (rP2 K rBool rBool)) G' v res → Q v H'
def sp_joint_lines (K : PySem.W.Frag) : Sp := fun vs H Q _ => ∃ (G : Hp) (O : Own) (v1 : V) (lengths1 : (Int × Int)) (v2 : V) (joint1 : ((Wd × Int × Int) × (List Int) × (Wd × Int × Int) × (List Int) × (List (Bool × Int)))) (count1 : Int) (v3 : V) (first1 : (Int × Int × Int × Bool × Bool × Bool)) (v4 : V) (second1 : (Int × Int × Int × Bool × Bool × Bool)), vs = [v1, v2, (V.int count1), v3, v4] ∧ Sub G (O) H ∧ R.rel (rP2 K rInt rInt) G v1 lengths1 ∧ R.rel (rP5 K (rP3 K (rEn e_Wd) rInt rInt) (rT K rInt) (rP3 K (rEn e_Wd) rInt rInt) (rT K rInt) (rT K (rP2 K rBool rInt))) G v2 joint1 ∧ R.rel (rP6 K rInt rInt rInt rBool rBool rBool) G v3 first1 ∧ R.rel (rP6 K rInt rInt rInt rBool rBool rBool) G v4 second1 ∧ ∃ res, m_joint_lines lengths1 joint1 count1 first1 second1 = some res ∧
  ∀ (v : V) (G' H' : Hp), Ext G G' → Sub G' (O) H' → R.rel (rA (Str.ofString "parted") (rP5 K (rP3 K (rEn e_Wd) rInt rInt) (rT K rInt) (rP3 K (rEn e_Wd) rInt rInt) (rT K rInt) (rT K (rP2 K rBool rInt)))) G' v res → Q v H'
def sp_joint_block (K : PySem.W.Frag) : Sp := fun vs H Q _ => ∃ (G : Hp) (O : Own) (v1 : V) (lengths1 : (Int × Int)) (v2 : V) (joint1 : (Option ((Wd × Int × Int) × (List Int) × (Wd × Int × Int) × (List Int) × (List (Bool × Int))))) (count1 : Int) (v3 : V) (first1 : (Int × Int × Int × Bool × Bool × Bool)) (v4 : V) (second1 : (Int × Int × Int × Bool × Bool × Bool)), vs = [v1, v2, (V.int count1), v3, v4] ∧ Sub G (O) H ∧ R.rel (rP2 K rInt rInt) G v1 lengths1 ∧ R.rel (rA (Str.ofString "parted") (rP5 K (rP3 K (rEn e_Wd) rInt rInt) (rT K rInt) (rP3 K (rEn e_Wd) rInt rInt) (rT K rInt) (rT K (rP2 K rBool rInt)))) G v2 joint1 ∧ R.rel (rP6 K rInt rInt rInt rBool rBool rBool) G v3 first1 ∧ R.rel (rP6 K rInt rInt rInt rBool rBool rBool) G v4 second1 ∧ ∃ res, m_joint_block lengths1 joint1 count1 first1 second1 = some res ∧
  ∀ (v : V) (G' H' : Hp), Ext G G' → Sub G' (O) H' → R.rel (rA (Str.ofString "parted") (rP5 K (rP3 K (rEn e_Wd) rInt rInt) (rT K rInt) (rP3 K (rEn e_Wd) rInt rInt) (rT K rInt) (rT K (rP2 K rBool rInt)))) G' v res → Q v H'
def sp_alike_at_end (K : PySem.W.Frag) : Sp := fun vs H Q _ => ∃ (G : Hp) (O : Own) (v1 : V) (joint1 : (Option ((Wd × Int × Int) × (List Int) × (Wd × Int × Int) × (List Int) × (List (Bool × Int))))), vs = [v1] ∧ Sub G (O) H ∧ R.rel (rA (Str.ofString "parted") (rP5 K (rP3 K (rEn e_Wd) rInt rInt) (rT K rInt) (rP3 K (rEn e_Wd) rInt rInt) (rT K rInt) (rT K (rP2 K rBool rInt)))) G v1 joint1 ∧ ∃ res, m_alike_at_end joint1 = some res ∧
  ∀ (G' H' : Hp), Ext G G' → Sub G' (O) H' → Q (V.bl res) H'
def sp_law_bag (K : PySem.W.Frag) : Sp := fun vs H Q _ => ∃ (G : Hp) (O : Own) (v1 : V) (script1 : (List Int)) (at1 : Int), vs = [v1, (V.int at1)] ∧ Sub G (O) H ∧ R.rel (rL K rInt) G v1 script1 ∧ ∃ res, m_law_bag script1 at1 = some res ∧
  ∀ (p : Addr) (w : List V) (G' H' : Hp), Ext G G' → Sub G' ((p, HO.lst w) :: O) H' → Al rInt G' w res → Q (V.ref p) H'
def sp_law_draw (K : PySem.W.Frag) : Sp := fun vs H Q _ => ∃ (G : Hp) (O : Own) (a1 : Addr) (w1 : List V) (bag_here1 : List Int) (many1 : Int), vs = [V.ref a1, (V.int many1)] ∧ Sub G ((a1, HO.lst w1) :: O) H ∧ Al rInt G w1 bag_here1 ∧ ∃ res, m_law_draw bag_here1 many1 = some res ∧
  ∀ (G' H' : Hp) (w'0 : List V), Ext G G' → Sub G' ((a1, HO.lst w'0) :: O) H' → Al rInt G' w'0 res.2 → Q (V.int res.1) H'
def sp_law_values (K : PySem.W.Frag) : Sp := fun vs H Q _ => ∃ (G : Hp) (O : Own) (a1 : Addr) (w1 : List V) (bag_here1 : List Int), vs = [V.ref a1] ∧ Sub G ((a1, HO.lst w1) :: O) H ∧ Al rInt G w1 bag_here1 ∧ ∃ res, m_law_values bag_here1 = some res ∧
  ∀ (v : V) (G' H' : Hp) (w'0 : List V), Ext G G' → Sub G' ((a1, HO.lst w'0) :: O) H' → R.rel (rP6 K rInt rInt rInt rBool rBool rBool) G' v res.1 → Al rInt G' w'0 res.2 → Q v H'
def sp_law_row (K : PySem.W.Frag) : Sp := fun vs H Q _ => ∃ (G : Hp) (O : Own) (a1 : Addr) (w1 : List V) (bag_here1 : List Int) (many1 : Int), vs = [V.ref a1, (V.int many1)] ∧ Sub G ((a1, HO.lst w1) :: O) H ∧ Al rInt G w1 bag_here1 ∧ ∃ res, m_law_row bag_here1 many1 = some res ∧
  ∀ (v : V) (G' H' : Hp) (w'0 : List V), Ext G G' → Sub G' ((a1, HO.lst w'0) :: O) H' → R.rel (rM (rP3 K rInt (rP6 K rInt rInt rInt rBool rBool rBool) (rP6 K rInt rInt rInt rBool rBool rBool))) G' v res.1 → Al rInt G' w'0 res.2 → Q v H'
def sp_law_lines (K : PySem.W.Frag) : Sp := fun vs H Q _ => ∃ (G : Hp) (O : Own) (v1 : V) (blocks1 : (List (Int × (Int × Int × Int × Bool × Bool × Bool)))), vs = [v1] ∧ Sub G (O) H ∧ R.rel (rM (rP2 K rInt (rP6 K rInt rInt rInt rBool rBool rBool))) G v1 blocks1 ∧ ∃ res, m_law_lines blocks1 = some res ∧
  ∀ (v : V) (G' H' : Hp), Ext G G' → Sub G' (O) H' → R.rel (rM (rP3 K rInt rBool rBool)) G' v res → Q v H'
def sp_law_cut (K : PySem.W.Frag) : Sp := fun vs H Q _ => ∃ (G : Hp) (O : Own) (length1 : Int) (v1 : V) (rows1 : (List (Int × Bool × Bool))) (start1 : Int), vs = [(V.int length1), v1, (V.int start1)] ∧ Sub G (O) H ∧ R.rel (rM (rP3 K rInt rBool rBool)) G v1 rows1 ∧ ∃ res, m_law_cut length1 rows1 start1 = some res ∧
  ∀ (G' H' : Hp), Ext G G' → Sub G' (O) H' → Q (V.int res) H'
def sp_law_places (K : PySem.W.Frag) : Sp := fun vs H Q _ => ∃ (G : Hp) (O : Own) (length1 : Int) (v1 : V) (rows1 : (List (Int × Bool × Bool))), vs = [(V.int length1), v1] ∧ Sub G (O) H ∧ R.rel (rM (rP3 K rInt rBool rBool)) G v1 rows1 ∧ ∃ res, m_law_places length1 rows1 = some res ∧
  ∀ (v : V) (G' H' : Hp), Ext G G' → Sub G' (O) H' → R.rel (rM (rP2 K rBool rInt)) G' v res → Q v H'
def sp_law_by_block (K : PySem.W.Frag) : Sp := fun vs H Q _ => ∃ (G : Hp) (O : Own) (length1 : Int) (v1 : V) (blocks1 : (List (Int × (Int × Int × Int × Bool × Bool × Bool)))), vs = [(V.int length1), v1] ∧ Sub G (O) H ∧ R.rel (rM (rP2 K rInt (rP6 K rInt rInt rInt rBool rBool rBool))) G v1 blocks1 ∧ ∃ res, m_law_by_block length1 blocks1 = some res ∧
  ∀ (v : V) (G' H' : Hp), Ext G G' → Sub G' (O) H' → R.rel (rM (rM (rP2 K rBool rInt))) G' v res → Q v H'
def sp_law (K : PySem.W.Frag) : Sp := fun vs H Q _ => ∃ (G : Hp) (O : Own) (v1 : V) (script1 : (List Int)), vs = [v1] ∧ Sub G (O) H ∧ R.rel (rL K rInt) G v1 script1 ∧ ∃ res, m_law script1 = some res ∧
  ∀ (G' H' : Hp), Ext G G' → Sub G' (O) H' → Q (V.bl res) H'
end Mr

set_option Elab.async false
set_option linter.all false
set_option maxRecDepth 100000
set_option maxHeartbeats 4000000
set_option synthInstance.maxSize 4000
set_option synthInstance.maxHeartbeats 400000
namespace Mr
open PySem PySem.Spec PyProof.Rows L2
section
variable {P : Program} {w : World} {K : PySem.W.Frag} {mg : Str → Option Value} {base : Heap}
theorem sc_back_rows : FnScope ["offsets"] ["offsets"] (defScope s_back_rows) := ⟨rfl, rfl, rfl, by decide +kernel, rfl, by decide +kernel, by decide +kernel⟩
theorem ok_back_rows (T : Tx K mg) : FnOk P w K mg base CX0 1 (He.fAd K ("back_rows", none)) T.fd_back_rows ["offsets"] (sp_back_rows K) := by
  refine T.F_back_rows.ok sc_back_rows (fun vs H Q E h => ?_) (fun cdv A outer s H0 vs Q E hr h => ?_)
  · obtain ⟨G, O, v1, offsets1, rfl, _⟩ := h
    rfl
  · obtain ⟨G0, O, v1, offsets1, rfl, S0, h1, res, hm, q⟩ := h
    refine ⟨_, PSs.nox (pss_cons (ps_if (pt_not (pt_truM (pv 0))) (pss_one (ps_ret pe_int)) pss_nil)
      (pss_one (ps_ret (pe_op op_add (pe_ix ix_tup (pv 0) (pe_un un_neg pe_int) (fun _ _ => rfl)) pe_int)))), ?_⟩
    have E0 := Ext.refl G0
    have hm0 : (if (!(!offsets1.isEmpty)) then (some (0 : Int))
  else (Option.bind (getM offsets1 (-(1 : Int))) fun x1 =>
  some (x1 + (1 : Int)))) = some res := hm
    refine gS_IfS ?_
    refine gNot ?_
    refine gTru ?_
    refine gV rfl ?_
    refine q_truT S0 h1 ?_
    refine ite2 (fun c1 => ?_) (fun c1 => ?_)
    · skip
      have hm1 := (if_pos c1).symm.trans hm0
      refine gRet ?_
      refine gC ?_
      cases hm1
      exact q G0 H0 E0 S0
    · skip
      have hm2 := (if_neg c1).symm.trans hm0
      refine gNext ?_
      refine gE ?_
      refine gRet ?_
      refine gOp ?_
      refine gOp ?_
      refine gV rfl ?_
      refine gUn ?_
      refine gC ?_
      refine ⟨_, rfl, ?_⟩
      obtain ⟨x1, hq1, hm3⟩ := bindS hm2
      refine q_ixT S0 h1 hq1 (fun v2 h2 => ?_)
      obtain rfl := (show v2 = (V.int x1) from h2)
      refine gC ?_
      refine ⟨_, _, rfl, rfl, ?_⟩
      cases hm3
      exact q G0 H0 E0 S0
end
end Mr

set_option Elab.async false
set_option linter.all false
set_option maxRecDepth 100000
set_option maxHeartbeats 4000000
set_option synthInstance.maxSize 4000
set_option synthInstance.maxHeartbeats 400000
namespace Mr
open PySem PySem.Spec PyProof.Rows L2
section
variable {P : Program} {w : World} {K : PySem.W.Frag} {mg : Str → Option Value} {base : Heap}
theorem sc_staying : FnScope ["rows", "offsets", "base", "offset"] ["rows", "offsets"] (defScope s_staying) := ⟨rfl, rfl, rfl, by decide +kernel, rfl, by decide +kernel, by decide +kernel⟩
theorem ok_staying (T : Tx K mg) : FnOk P w K mg base CX0 2 (He.fAd K ("staying", none)) T.fd_staying ["rows", "offsets"] (sp_staying K) := by
  have G_back_rows := ok_back_rows (P := P) (w := w) (base := base) T
  refine T.F_staying.ok sc_staying (fun vs H Q E h => ?_) (fun cdv A outer s H0 vs Q E hr h => ?_)
  · obtain ⟨G, O, rows1, v1, offsets1, rfl, _⟩ := h
    rfl
  · obtain ⟨G0, O, rows1, v1, offsets1, rfl, S0, h1, res, hm, q⟩ := h
    refine ⟨_, PSs.nox (pss_cons (ps_set (i := 2) sc_staying.nd rfl (.inr rfl) (pe_op op_sub (pv 0) (pe_call G_back_rows (hr.mono (by decide)) (by rfl) T.g_back_rows T.F_back_rows.kp T.b_back_rows .nil pass0 (pa_cons (pv 1) pa_nil))))
      (pss_one (ps_ret (pe_lc (own := [("offset", 3)]) (g := gName 3) (by rfl) sc_staying.nd (pi_tup (pv 1)) (blkOk_by (own := [("offset", 3)]) (N := ["rows", "offsets", "base", "offset"]) (sc := defScope s_staying) (by decide +kernel)) (fun _ _ _ _ _ => (pg_name (i := 3) sc_staying.nd rfl (.inl rfl))) (fun _ _ _ _ _ => pts_nil) (fun _ _ _ _ _ => (pe_tup (pa_cons pe_bl (pa_cons (pe_op op_add (pv 2) (pv 3)) pa_nil)))))))), ?_⟩
    have E0 := Ext.refl G0
    have hm0 : (Option.bind (m_back_rows offsets1) fun r1 =>
  Option.bind (folM (m_staying_c1 rows1 r1) offsets1 ([] : (List (Bool × Int)))) fun acc1 =>
  some acc1) = some res := hm
    refine gS_AsgN ?_
    refine gOp ?_
    refine gV rfl ?_
    refine gCall ?_
    refine gCons' ?_
    refine gV rfl ?_
    refine gNil' ?_
    obtain ⟨r1, hq1, hm1⟩ := bindS hm0
    refine ⟨G0, (O), v1, offsets1, rfl, S0, h1, r1, hq1, fun G1 H1 e1 S1 => ?_⟩
    have h2 := R.up e1 h1
    have E1 := E0.trans e1
    refine ⟨_, _, rfl, rfl, ?_⟩
    refine gRet ?_
    refine gLc ?_
    refine gIT ?_
    refine gV rfl ?_
    obtain ⟨acc1, hq2, hm2⟩ := bindS hm1
    refine lc_T (r := rInt) S1 h2 hq2 (fun (D : Addr) (s : (List (Bool × Int))) (H : Hp) => ∃ (G : Hp) (w1 : List V), Ext G1 G ∧ Sub G ((D, HO.lst w1) :: O) H ∧ Al (rP2 K rBool rInt) G w1 s) ?_ ?_ ?_ ?_
    · intro D1 nD1
      exact ⟨G1, [], Ext.refl _, S1.newOwn nD1, True.intro⟩
    · intro D s H hI
      obtain ⟨G, k1, ie, iS, _⟩ := hI
      exact ie.trans iS.ext
    · intro D2 i1 x1 acc2 s2 hb1 hr1 v3 H3 hI1 h5
      obtain ⟨G3, w2, e3, S3, h6⟩ := hI1
      have h7 := R.up e3 h2
      have E3 := E1.trans e3
      obtain rfl := (show v3 = (V.int x1) from h5)
      refine ⟨rfl, ?_⟩
      have hm3 : (Option.bind (appM acc2 (false, ((rows1 - r1) + x1))) fun acc3 =>
  some acc3) = some s2 := hb1
      refine gYes ?_
      refine iteT ?_
      refine gTup' ?_
      refine gCons' ?_
      refine gC ?_
      refine gCons' ?_
      refine gOp ?_
      refine gV rfl ?_
      refine gV rfl ?_
      refine ⟨_, _, rfl, rfl, ?_⟩
      refine gNil' ?_
      refine q_tup2 (K := K) S3 (show R.rel rBool G3 (V.bl false) false from rfl) (show R.rel rInt G3 (V.int ((rows1 - r1) + x1)) ((rows1 - r1) + x1) from rfl) (fun v4 G4 H4 e4 S4 h8 => ?_)
      have h9 := R.up e4 h7
      have h10 := Al.up e4 h6
      have E4 := E3.trans e4
      obtain ⟨acc3, hq3, hm4⟩ := bindS hm3
      refine q_lcEl S4 h10 (show R.rel (rP2 K rBool rInt) G4 v4 (false, ((rows1 - r1) + x1)) from h8) hq3 (fun H5 w3 S5 h11 => ?_)
      cases hm4
      exact ⟨_, ⟨G4, w3, (e3.trans e4), S5, h11⟩, hr1⟩
    · intro D3 H6 hI2
      obtain ⟨G5, w4, e5, S6, h12⟩ := hI2
      have h13 := R.up e5 h2
      have E5 := E1.trans e5
      obtain ⟨G6, e6, S7, h14⟩ := frz_M S6 h12
      have h15 := R.up e6 h13
      have E6 := E5.trans e6
      cases hm2
      exact q (V.ref D3) G6 H6 E6 S7 h14
end
end Mr

set_option Elab.async false
set_option linter.all false
set_option maxRecDepth 100000
set_option maxHeartbeats 4000000
set_option synthInstance.maxSize 4000
set_option synthInstance.maxHeartbeats 400000
namespace Mr
open PySem PySem.Spec PyProof.Rows L2
section
variable {P : Program} {w : World} {K : PySem.W.Frag} {mg : Str → Option Value} {base : Heap}
theorem sc_going_over : FnScope ["offsets", "at", "offset"] ["offsets"] (defScope s_going_over) := ⟨rfl, rfl, rfl, by decide +kernel, rfl, by decide +kernel, by decide +kernel⟩
theorem ok_going_over (T : Tx K mg) : FnOk P w K mg base CX0 1 (He.fAd K ("going_over", none)) T.fd_going_over ["offsets"] (sp_going_over K) := by
  refine T.F_going_over.ok sc_going_over (fun vs H Q E h => ?_) (fun cdv A outer s H0 vs Q E hr h => ?_)
  · obtain ⟨G, O, v1, offsets1, rfl, _⟩ := h
    rfl
  · obtain ⟨G0, O, v1, offsets1, rfl, S0, h1, res, hm, q⟩ := h
    refine ⟨_, PSs.nox (pss_one (ps_ret (pe_lc (own := [("at", 1), ("offset", 2)]) (g := gTup K 2 (gCons (gName 1) (gCons (gName 2) gNil))) (by rfl) sc_going_over.nd (pi_enumQ (by rfl) T.z_enumerate (pa_cons (pv 0) pa_nil)) (blkOk_by (own := [("at", 1), ("offset", 2)]) (N := ["offsets", "at", "offset"]) (sc := defScope s_going_over) (by decide +kernel)) (fun _ _ _ _ _ => (pg_tup rfl (pgs_cons (pg_name (i := 1) sc_going_over.nd rfl (.inl rfl)) (pgs_cons (pg_name (i := 2) sc_going_over.nd rfl (.inl rfl)) pgs_nil)))) (fun _ _ _ _ _ => pts_nil) (fun _ _ _ _ _ => (pe_tup (pa_cons (pe_cmpR op_eqI (pv 1) pe_int (nomark _)) (pa_cons (pv 2) pa_nil))))))), ?_⟩
    have E0 := Ext.refl G0
    have hm0 : (Option.bind (folM (m_going_over_c1) (enumM offsets1) ([] : (List (Bool × Int)))) fun acc1 =>
  some acc1) = some res := hm
    refine gRet ?_
    refine gLc ?_
    refine gIE ?_
    refine gCons' ?_
    refine gV rfl ?_
    refine gNil' ?_
    obtain ⟨acc1, hq1, hm1⟩ := bindS hm0
    refine lc_EQ (r := rInt) S0 (rT_Q h1) hq1 (fun (D : Addr) (s : (List (Bool × Int))) (H : Hp) => ∃ (G : Hp) (w1 : List V), Ext G0 G ∧ Sub G ((D, HO.lst w1) :: O) H ∧ Al (rP2 K rBool rInt) G w1 s) ?_ ?_ ?_ ?_
    · intro D1 nD1
      exact ⟨G0, [], Ext.refl _, S0.newOwn nD1, True.intro⟩
    · intro D s H hI
      obtain ⟨G, k1, ie, iS, _⟩ := hI
      exact ie.trans iS.ext
    · intro D2 i1 x1 acc2 s2 hb1 hr1 v3 H2 H3 hI1 hS1 h4
      obtain ⟨G2, w2, e2, S2, h5⟩ := hI1
      have h6 := R.up e2 h1
      have E2 := E0.trans e2
      have S3 := hS1 _ _ S2
      generalize ((i1 : Nat) : Int) = k2 at hb1 ⊢
      obtain rfl := (show v3 = (V.int x1) from h4)
      refine ⟨rfl, ?_⟩
      have hm2 : (Option.bind (appM acc2 ((decide (k2 = (0 : Int))), x1)) fun acc3 =>
  some acc3) = some s2 := hb1
      refine gYes ?_
      refine iteT ?_
      refine gTup' ?_
      refine gCons' ?_
      refine gOp ?_
      refine gV rfl ?_
      refine gC ?_
      refine ⟨_, _, rfl, rfl, ?_⟩
      refine gCons' ?_
      refine gV rfl ?_
      refine gNil' ?_
      refine q_tup2 (K := K) S3 (show R.rel rBool G2 (V.bl (decide (k2 = (0 : Int)))) (decide (k2 = (0 : Int))) from rfl) (show R.rel rInt G2 (V.int x1) x1 from rfl) (fun v4 G3 H4 e3 S4 h7 => ?_)
      have h8 := R.up e3 h6
      have h9 := Al.up e3 h5
      have E3 := E2.trans e3
      obtain ⟨acc3, hq2, hm3⟩ := bindS hm2
      refine q_lcEl S4 h9 (show R.rel (rP2 K rBool rInt) G3 v4 ((decide (k2 = (0 : Int))), x1) from h7) hq2 (fun H5 w3 S5 h10 => ?_)
      cases hm3
      exact ⟨_, ⟨G3, w3, (e2.trans e3), S5, h10⟩, hr1⟩
    · intro D3 H6 hI2
      obtain ⟨G4, w4, e4, S6, h11⟩ := hI2
      have h12 := R.up e4 h1
      have E4 := E0.trans e4
      obtain ⟨G5, e5, S7, h13⟩ := frz_M S6 h11
      have h14 := R.up e5 h12
      have E5 := E4.trans e5
      cases hm1
      exact q (V.ref D3) G5 H6 E5 S7 h13
end
end Mr

set_option Elab.async false
set_option linter.all false
set_option maxRecDepth 100000
set_option maxHeartbeats 4000000
set_option synthInstance.maxSize 4000
set_option synthInstance.maxHeartbeats 400000
namespace Mr
open PySem PySem.Spec PyProof.Rows L2
section
variable {P : Program} {w : World} {K : PySem.W.Frag} {mg : Str → Option Value} {base : Heap}
theorem sc_fitting : FnScope ["rows", "offsets", "space", "barred"] ["rows", "offsets", "space", "barred"] (defScope s_fitting) := ⟨rfl, rfl, rfl, by decide +kernel, rfl, by decide +kernel, by decide +kernel⟩
theorem ok_fitting (T : Tx K mg) : FnOk P w K mg base CX0 3 (He.fAd K ("fitting", none)) T.fd_fitting ["rows", "offsets", "space", "barred"] (sp_fitting K) := by
  have G_staying := ok_staying (P := P) (w := w) (base := base) T
  refine T.F_fitting.ok sc_fitting (fun vs H Q E h => ?_) (fun cdv A outer s H0 vs Q E hr h => ?_)
  · obtain ⟨G, O, rows1, v1, offsets1, space1, barred1, rfl, _⟩ := h
    rfl
  · obtain ⟨G0, O, rows1, v1, offsets1, space1, barred1, rfl, S0, h1, res, hm, q⟩ := h
    refine ⟨_, PSs.nox (pss_cons (ps_if (pt_not (pt_val (pv 3))) (pss_one (ps_ret (pe_tup (pa_cons (pe_op op_add (pe_op op_add (pv 0) (pv 2)) pe_int) (pa_cons (pe_tup (pa_cons pe_int pa_nil)) (pa_cons (pe_call G_staying (hr.mono (by decide)) (by rfl) T.g_staying T.F_staying.kp T.b_staying .nil pass0 (pa_cons (pv 0) (pa_cons (pv 1) pa_nil))) pa_nil)))))) pss_nil)
      (pss_cons (ps_if (pt_truM (pv 1)) (pss_one (ps_ret (pe_tup (pa_cons (pe_op op_add (pe_op op_add (pv 0) (pv 2)) pe_int) (pa_cons (pe_tup (StX.pa_star (pv 1) (pa_cons (pe_op op_add (pe_op op_add (pe_ix ix_tup (pv 1) (pe_un un_neg pe_int) (fun _ _ => rfl)) (pv 2)) pe_int) pa_nil))) (pa_cons (pe_lst pa_nil) pa_nil)))))) pss_nil)
      (pss_one (ps_ret (pe_tup (pa_cons (pe_op op_add (pe_op op_add (pv 0) (pv 2)) pe_int) (pa_cons (pe_tup pa_nil) (pa_cons (pe_lst (pa_cons (pe_tup (pa_cons pe_bl (pa_cons (pe_op op_add (pv 0) (pv 2)) pa_nil))) pa_nil)) pa_nil)))))))), ?_⟩
    have E0 := Ext.refl G0
    have hm0 : (if (!barred1) then (Option.bind (szM ([(0 : Int)] : List Int)) fun t1 =>
  Option.bind (m_staying rows1 offsets1) fun r1 =>
  some (((rows1 + space1) + (1 : Int)), t1, r1))
  else (if (!offsets1.isEmpty) then (Option.bind (getM offsets1 (-(1 : Int))) fun x1 =>
  Option.bind (szM (offsets1 ++ [((x1 + space1) + (1 : Int))])) fun t2 =>
  some (((rows1 + space1) + (1 : Int)), t2, ([] : List (Bool × Int))))
  else (Option.bind (szM ([] : List Int)) fun t3 =>
  some (((rows1 + space1) + (1 : Int)), t3, ([(false, (rows1 + space1))] : List (Bool × Int)))))) = some res := hm
    refine gS_IfS ?_
    refine gNot ?_
    refine gB ?_
    refine gV rfl ?_
    refine ⟨barred1, rfl, ?_⟩
    refine ite2 (fun c1 => ?_) (fun c1 => ?_)
    · skip
      have hm1 := (if_pos c1).symm.trans hm0
      refine gRet ?_
      refine gTup' ?_
      refine gCons' ?_
      refine gOp ?_
      refine gOp ?_
      refine gV rfl ?_
      refine gV rfl ?_
      refine ⟨_, _, rfl, rfl, ?_⟩
      refine gC ?_
      refine ⟨_, _, rfl, rfl, ?_⟩
      refine gCons' ?_
      refine gTup' ?_
      refine gCons' ?_
      refine gC ?_
      refine gNil' ?_
      have h2 : Al rInt G0 [(V.int (0 : Int))] ([(0 : Int)] : List Int) := ⟨rfl, True.intro⟩
      obtain ⟨t1, hq1, hm2⟩ := bindS hm1
      refine q_tupH (K := K) S0 h2 hq1 (fun v2 G1 H1 e1 S1 h3 => ?_)
      have h4 := R.up e1 h1
      have E1 := E0.trans e1
      refine gCons' ?_
      refine gCall ?_
      refine gCons' ?_
      refine gV rfl ?_
      refine gCons' ?_
      refine gV rfl ?_
      refine gNil' ?_
      obtain ⟨r1, hq2, hm3⟩ := bindS hm2
      refine ⟨G1, (O), rows1, v1, offsets1, rfl, S1, h4, r1, hq2, fun v3 G2 H2 e2 S2 h5 => ?_⟩
      have h6 := R.up e2 h4
      have h7 := R.up e2 h3
      have E2 := E1.trans e2
      refine gNil' ?_
      refine q_tup3 (K := K) S2 (show R.rel rInt G2 (V.int ((rows1 + space1) + (1 : Int))) ((rows1 + space1) + (1 : Int)) from rfl) (show R.rel (rT K rInt) G2 v2 t1 from h7) (show R.rel (rM (rP2 K rBool rInt)) G2 v3 r1 from h5) (fun v4 G3 H3 e3 S3 h8 => ?_)
      have h9 := R.up e3 h6
      have E3 := E2.trans e3
      cases hm3
      exact q v4 G3 H3 E3 S3 h8
    · skip
      have hm4 := (if_neg c1).symm.trans hm0
      refine gNext ?_
      refine gE ?_
      refine gS_IfS ?_
      refine gTru ?_
      refine gV rfl ?_
      refine q_truT S0 h1 ?_
      refine ite2 (fun c2 => ?_) (fun c2 => ?_)
      · skip
        have hm5 := (if_pos c2).symm.trans hm4
        refine gRet ?_
        refine gTup' ?_
        refine gCons' ?_
        refine gOp ?_
        refine gOp ?_
        refine gV rfl ?_
        refine gV rfl ?_
        refine ⟨_, _, rfl, rfl, ?_⟩
        refine gC ?_
        refine ⟨_, _, rfl, rfl, ?_⟩
        refine gCons' ?_
        refine gTup' ?_
        refine gStar ?_
        refine gV rfl ?_
        refine q_starT S0 h1 (fun w1 h10 => ?_)
        refine gCons' ?_
        refine gOp ?_
        refine gOp ?_
        refine gOp ?_
        refine gV rfl ?_
        refine gUn ?_
        refine gC ?_
        refine ⟨_, rfl, ?_⟩
        obtain ⟨x1, hq3, hm6⟩ := bindS hm5
        refine q_ixT S0 h1 hq3 (fun v5 h11 => ?_)
        obtain rfl := (show v5 = (V.int x1) from h11)
        refine gV rfl ?_
        refine ⟨_, _, rfl, rfl, ?_⟩
        refine gC ?_
        refine ⟨_, _, rfl, rfl, ?_⟩
        refine gNil' ?_
        have h12 : Al rInt G0 (w1 ++ [(V.int ((x1 + space1) + (1 : Int)))]) (offsets1 ++ [((x1 + space1) + (1 : Int))]) := Al.app h10 ⟨rfl, True.intro⟩
        obtain ⟨t2, hq4, hm7⟩ := bindS hm6
        refine q_tupH (K := K) S0 h12 hq4 (fun v6 G4 H4 e4 S4 h13 => ?_)
        have h14 := R.up e4 h1
        have E4 := E0.trans e4
        refine gCons' ?_
        refine gLst ?_
        refine gNil' ?_
        have h15 : Al (rP2 K rBool rInt) G4 [] [] := True.intro
        refine q_lst S4 h15 (by show 0 ≤ 100000; decide) (fun a1 H5 w2 S5 h16 => ?_)
        refine gNil' ?_
        obtain ⟨G5, e5, S6, h17⟩ := frz_M S5 h16
        have h18 := R.up e5 h14
        have h19 := R.up e5 h13
        have E5 := E4.trans e5
        refine q_tup3 (K := K) S6 (show R.rel rInt G5 (V.int ((rows1 + space1) + (1 : Int))) ((rows1 + space1) + (1 : Int)) from rfl) (show R.rel (rT K rInt) G5 v6 t2 from h19) (show R.rel (rM (rP2 K rBool rInt)) G5 (V.ref a1) ([] : List (Bool × Int)) from h17) (fun v7 G6 H6 e6 S7 h20 => ?_)
        have h21 := R.up e6 h18
        have E6 := E5.trans e6
        cases hm7
        exact q v7 G6 H6 E6 S7 h20
      · skip
        have hm8 := (if_neg c2).symm.trans hm4
        refine gNext ?_
        refine gE ?_
        refine gRet ?_
        refine gTup' ?_
        refine gCons' ?_
        refine gOp ?_
        refine gOp ?_
        refine gV rfl ?_
        refine gV rfl ?_
        refine ⟨_, _, rfl, rfl, ?_⟩
        refine gC ?_
        refine ⟨_, _, rfl, rfl, ?_⟩
        refine gCons' ?_
        refine gTup' ?_
        refine gNil' ?_
        have h22 : Al rInt G0 [] ([] : List Int) := True.intro
        obtain ⟨t3, hq5, hm9⟩ := bindS hm8
        refine q_tupH (K := K) S0 h22 hq5 (fun v8 G7 H7 e7 S8 h23 => ?_)
        have h24 := R.up e7 h1
        have E7 := E0.trans e7
        refine gCons' ?_
        refine gLst ?_
        refine gCons' ?_
        refine gTup' ?_
        refine gCons' ?_
        refine gC ?_
        refine gCons' ?_
        refine gOp ?_
        refine gV rfl ?_
        refine gV rfl ?_
        refine ⟨_, _, rfl, rfl, ?_⟩
        refine gNil' ?_
        refine q_tup2 (K := K) S8 (show R.rel rBool G7 (V.bl false) false from rfl) (show R.rel rInt G7 (V.int (rows1 + space1)) (rows1 + space1) from rfl) (fun v9 G8 H8 e8 S9 h25 => ?_)
        have h26 := R.up e8 h24
        have h27 := R.up e8 h23
        have E8 := E7.trans e8
        refine gNil' ?_
        have h28 : Al (rP2 K rBool rInt) G8 [v9] [(false, (rows1 + space1))] := ⟨h25, True.intro⟩
        refine q_lst S9 h28 (by show 1 ≤ 100000; decide) (fun a2 H9 w3 S10 h29 => ?_)
        refine gNil' ?_
        obtain ⟨G9, e9, S11, h30⟩ := frz_M S10 h29
        have h31 := R.up e9 h26
        have h32 := R.up e9 h27
        have E9 := E8.trans e9
        refine q_tup3 (K := K) S11 (show R.rel rInt G9 (V.int ((rows1 + space1) + (1 : Int))) ((rows1 + space1) + (1 : Int)) from rfl) (show R.rel (rT K rInt) G9 v8 t3 from h32) (show R.rel (rM (rP2 K rBool rInt)) G9 (V.ref a2) ([(false, (rows1 + space1))] : List (Bool × Int)) from h30) (fun v10 G10 H10 e10 S12 h33 => ?_)
        have h34 := R.up e10 h31
        have E10 := E9.trans e10
        cases hm9
        exact q v10 G10 H10 E10 S12 h33
end
end Mr

set_option Elab.async false
set_option linter.all false
set_option maxRecDepth 100000
set_option maxHeartbeats 4000000
set_option synthInstance.maxSize 4000
set_option synthInstance.maxHeartbeats 400000
namespace Mr
open PySem PySem.Spec PyProof.Rows L2
section
variable {P : Program} {w : World} {K : PySem.W.Frag} {mg : Str → Option Value} {base : Heap}
theorem sc_side_line : FnScope ["length", "side", "space", "barred", "rows", "offsets", "gone"] ["length", "side", "space", "barred"] (defScope s_side_line) := ⟨rfl, rfl, rfl, by decide +kernel, rfl, by decide +kernel, by decide +kernel⟩
theorem ok_side_line (T : Tx K mg) : FnOk P w K mg base CX0 4 (He.fAd K ("side_line", none)) T.fd_side_line ["length", "side", "space", "barred"] (sp_side_line K) := by
  have G_back_rows := ok_back_rows (P := P) (w := w) (base := base) T
  have G_fitting := ok_fitting (P := P) (w := w) (base := base) T
  have G_going_over := ok_going_over (P := P) (w := w) (base := base) T
  have G_staying := ok_staying (P := P) (w := w) (base := base) T
  refine T.F_side_line.ok sc_side_line (fun vs H Q E h => ?_) (fun cdv A outer s H0 vs Q E hr h => ?_)
  · obtain ⟨G, O, length1, v1, side1, space1, barred1, rfl, _⟩ := h
    rfl
  · obtain ⟨G0, O, length1, v1, side1, space1, barred1, rfl, S0, h1, res, hm, q⟩ := h
    refine ⟨_, PSs.nox (pss_cons (ps_asg (pv 1) (pg_tup rfl (pgs_cons (pg_name (i := 4) sc_side_line.nd rfl (.inl rfl)) (pgs_cons (pg_name (i := 5) sc_side_line.nd rfl (.inl rfl)) pgs_nil))))
      (pss_cons (ps_if (pt_cmpR op_eqI (pv 4) pe_int (nomark _)) (pss_one (ps_ret (pe_tup (pa_cons pe_int (pa_cons (pe_tup pa_nil) (pa_cons (pe_lst (pa_cons (pe_tup (pa_cons pe_bl (pa_cons pe_int pa_nil))) pa_nil)) pa_nil)))))) pss_nil)
      (pss_cons (ps_if (pt_cmpR op_le (pe_op op_add (pe_op op_add (pv 4) (pv 2)) pe_int) (pv 0) (nomark _)) (pss_one (ps_ret (pe_call G_fitting (hr.mono (by decide)) (by rfl) T.g_fitting T.F_fitting.kp T.b_fitting .nil pass0 (pa_cons (pv 4) (pa_cons (pv 5) (pa_cons (pv 2) (pa_cons (pv 3) pa_nil))))))) pss_nil)
      (pss_cons (ps_if (pt_not (pt_val (pv 3))) (pss_one (ps_ret (pe_tup (pa_cons pe_int (pa_cons (pe_tup pa_nil) (pa_cons (pe_op op_cat (pe_call G_staying (hr.mono (by decide)) (by rfl) T.g_staying T.F_staying.kp T.b_staying .nil pass0 (pa_cons (pv 4) (pa_cons (pv 5) pa_nil))) (pe_lst (pa_cons (pe_tup (pa_cons pe_bl (pa_cons pe_int pa_nil))) pa_nil))) pa_nil)))))) pss_nil)
      (pss_cons (ps_if (pt_not (pt_truM (pv 5))) (pss_one (ps_ret (pe_tup (pa_cons pe_int (pa_cons (pe_tup pa_nil) (pa_cons (pe_lst (pa_cons (pe_tup (pa_cons pe_bl (pa_cons pe_int pa_nil))) pa_nil)) pa_nil)))))) pss_nil)
      (pss_cons (ps_set (i := 6) sc_side_line.nd rfl (.inl rfl) (pe_call G_going_over (hr.mono (by decide)) (by rfl) T.g_going_over T.F_going_over.kp T.b_going_over .nil pass0 (pa_cons (pv 5) pa_nil)))
      (pss_cons (ps_set (i := 4) sc_side_line.nd rfl (.inl rfl) (pe_call G_back_rows (hr.mono (by decide)) (by rfl) T.g_back_rows T.F_back_rows.kp T.b_back_rows .nil pass0 (pa_cons (pv 5) pa_nil)))
      (pss_cons (ps_if (pt_cmpR op_le (pe_op op_add (pe_op op_add (pv 4) (pv 2)) pe_int) (pv 0) (nomark _)) (pss_one (ps_ret (pe_tup (pa_cons (pe_op op_add (pe_op op_add (pv 4) (pv 2)) pe_int) (pa_cons (pe_tup pa_nil) (pa_cons (pe_op op_cat (pv 6) (pe_lst (pa_cons (pe_tup (pa_cons pe_bl (pa_cons (pe_op op_add (pv 4) (pv 2)) pa_nil))) pa_nil))) pa_nil)))))) pss_nil)
      (pss_one (ps_ret (pe_tup (pa_cons pe_int (pa_cons (pe_tup pa_nil) (pa_cons (pe_op op_cat (pv 6) (pe_lst (pa_cons (pe_tup (pa_cons pe_bl (pa_cons pe_int pa_nil))) pa_nil))) pa_nil)))))))))))))), ?_⟩
    have E0 := Ext.refl G0
    have hm0 : (if (decide (side1.1 = (0 : Int))) then (Option.bind (szM ([] : List Int)) fun t1 =>
  some ((1 : Int), t1, ([(true, (0 : Int))] : List (Bool × Int))))
  else (if (decide (((side1.1 + space1) + (1 : Int)) ≤ length1)) then (Option.bind (m_fitting side1.1 side1.2 space1 barred1) fun r1 =>
  some r1)
  else (if (!barred1) then (Option.bind (szM ([] : List Int)) fun t2 =>
  Option.bind (m_staying side1.1 side1.2) fun r2 =>
  Option.bind (catM r2 ([(true, (0 : Int))] : List (Bool × Int))) fun z1 =>
  some ((1 : Int), t2, z1))
  else (if (!(!side1.2.isEmpty)) then (Option.bind (szM ([] : List Int)) fun t3 =>
  some ((1 : Int), t3, ([(true, (0 : Int))] : List (Bool × Int))))
  else (Option.bind (m_going_over side1.2) fun r3 =>
  Option.bind (m_back_rows side1.2) fun r4 =>
  if (decide (((r4 + space1) + (1 : Int)) ≤ length1)) then (Option.bind (szM ([] : List Int)) fun t4 =>
  Option.bind (catM r3 ([(false, (r4 + space1))] : List (Bool × Int))) fun z2 =>
  some (((r4 + space1) + (1 : Int)), t4, z2))
  else (Option.bind (szM ([] : List Int)) fun t5 =>
  Option.bind (catM r3 ([(true, (0 : Int))] : List (Bool × Int))) fun z3 =>
  some ((1 : Int), t5, z3))))))) = some res := hm
    refine gS_Asg ?_
    refine gV rfl ?_
    refine q_gt2 S0 h1 (fun v2 v3 h2 h3 => ?_)
    obtain rfl := (show v2 = (V.int side1.1) from h2)
    refine gS_IfS ?_
    refine gTest ?_
    refine gOp ?_
    refine gV rfl ?_
    refine gC ?_
    refine ⟨_, _, rfl, rfl, ?_⟩
    refine ⟨(decide (side1.1 = (0 : Int))), rfl, ?_⟩
    refine ite2 (fun c1 => ?_) (fun c1 => ?_)
    · skip
      have hm1 := (if_pos c1).symm.trans hm0
      refine gRet ?_
      refine gTup' ?_
      refine gCons' ?_
      refine gC ?_
      refine gCons' ?_
      refine gTup' ?_
      refine gNil' ?_
      have h4 : Al rInt G0 [] ([] : List Int) := True.intro
      obtain ⟨t1, hq1, hm2⟩ := bindS hm1
      refine q_tupH (K := K) S0 h4 hq1 (fun v4 G1 H1 e1 S1 h5 => ?_)
      have h6 := R.up e1 h1
      have h7 := R.up e1 h3
      have E1 := E0.trans e1
      refine gCons' ?_
      refine gLst ?_
      refine gCons' ?_
      refine gTup' ?_
      refine gCons' ?_
      refine gC ?_
      refine gCons' ?_
      refine gC ?_
      refine gNil' ?_
      refine q_tup2 (K := K) S1 (show R.rel rBool G1 (V.bl true) true from rfl) (show R.rel rInt G1 (V.int (0 : Int)) (0 : Int) from rfl) (fun v5 G2 H2 e2 S2 h8 => ?_)
      have h9 := R.up e2 h6
      have h10 := R.up e2 h7
      have h11 := R.up e2 h5
      have E2 := E1.trans e2
      refine gNil' ?_
      have h12 : Al (rP2 K rBool rInt) G2 [v5] [(true, (0 : Int))] := ⟨h8, True.intro⟩
      refine q_lst S2 h12 (by show 1 ≤ 100000; decide) (fun a1 H3 w1 S3 h13 => ?_)
      refine gNil' ?_
      obtain ⟨G3, e3, S4, h14⟩ := frz_M S3 h13
      have h15 := R.up e3 h9
      have h16 := R.up e3 h10
      have h17 := R.up e3 h11
      have E3 := E2.trans e3
      refine q_tup3 (K := K) S4 (show R.rel rInt G3 (V.int (1 : Int)) (1 : Int) from rfl) (show R.rel (rT K rInt) G3 v4 t1 from h17) (show R.rel (rM (rP2 K rBool rInt)) G3 (V.ref a1) ([(true, (0 : Int))] : List (Bool × Int)) from h14) (fun v6 G4 H4 e4 S5 h18 => ?_)
      have h19 := R.up e4 h15
      have h20 := R.up e4 h16
      have E4 := E3.trans e4
      cases hm2
      exact q v6 G4 H4 E4 S5 h18
    · skip
      have hm3 := (if_neg c1).symm.trans hm0
      refine gNext ?_
      refine gE ?_
      refine gS_IfS ?_
      refine gTest ?_
      refine gOp ?_
      refine gOp ?_
      refine gOp ?_
      refine gV rfl ?_
      refine gV rfl ?_
      refine ⟨_, _, rfl, rfl, ?_⟩
      refine gC ?_
      refine ⟨_, _, rfl, rfl, ?_⟩
      refine gV rfl ?_
      refine ⟨_, _, rfl, rfl, ?_⟩
      refine ⟨(decide (((side1.1 + space1) + (1 : Int)) ≤ length1)), rfl, ?_⟩
      refine ite2 (fun c2 => ?_) (fun c2 => ?_)
      · skip
        have hm4 := (if_pos c2).symm.trans hm3
        refine gRet ?_
        refine gCall ?_
        refine gCons' ?_
        refine gV rfl ?_
        refine gCons' ?_
        refine gV rfl ?_
        refine gCons' ?_
        refine gV rfl ?_
        refine gCons' ?_
        refine gV rfl ?_
        refine gNil' ?_
        obtain ⟨r1, hq2, hm5⟩ := bindS hm4
        refine ⟨G0, (O), side1.1, v3, side1.2, space1, barred1, rfl, S0, h3, r1, hq2, fun v7 G5 H5 e5 S6 h21 => ?_⟩
        have h22 := R.up e5 h1
        have h23 := R.up e5 h3
        have E5 := E0.trans e5
        cases hm5
        exact q v7 G5 H5 E5 S6 h21
      · skip
        have hm6 := (if_neg c2).symm.trans hm3
        refine gNext ?_
        refine gE ?_
        refine gS_IfS ?_
        refine gNot ?_
        refine gB ?_
        refine gV rfl ?_
        refine ⟨barred1, rfl, ?_⟩
        refine ite2 (fun c3 => ?_) (fun c3 => ?_)
        · skip
          have hm7 := (if_pos c3).symm.trans hm6
          refine gRet ?_
          refine gTup' ?_
          refine gCons' ?_
          refine gC ?_
          refine gCons' ?_
          refine gTup' ?_
          refine gNil' ?_
          have h24 : Al rInt G0 [] ([] : List Int) := True.intro
          obtain ⟨t2, hq3, hm8⟩ := bindS hm7
          refine q_tupH (K := K) S0 h24 hq3 (fun v8 G6 H6 e6 S7 h25 => ?_)
          have h26 := R.up e6 h1
          have h27 := R.up e6 h3
          have E6 := E0.trans e6
          refine gCons' ?_
          refine gOp ?_
          refine gCall ?_
          refine gCons' ?_
          refine gV rfl ?_
          refine gCons' ?_
          refine gV rfl ?_
          refine gNil' ?_
          obtain ⟨r2, hq4, hm9⟩ := bindS hm8
          refine ⟨G6, (O), side1.1, v3, side1.2, rfl, S7, h27, r2, hq4, fun v9 G7 H7 e7 S8 h28 => ?_⟩
          have h29 := R.up e7 h26
          have h30 := R.up e7 h27
          have h31 := R.up e7 h25
          have E7 := E6.trans e7
          refine gLst ?_
          refine gCons' ?_
          refine gTup' ?_
          refine gCons' ?_
          refine gC ?_
          refine gCons' ?_
          refine gC ?_
          refine gNil' ?_
          refine q_tup2 (K := K) S8 (show R.rel rBool G7 (V.bl true) true from rfl) (show R.rel rInt G7 (V.int (0 : Int)) (0 : Int) from rfl) (fun v10 G8 H8 e8 S9 h32 => ?_)
          have h33 := R.up e8 h29
          have h34 := R.up e8 h30
          have h35 := R.up e8 h31
          have h36 := R.up e8 h28
          have E8 := E7.trans e8
          refine gNil' ?_
          have h37 : Al (rP2 K rBool rInt) G8 [v10] [(true, (0 : Int))] := ⟨h32, True.intro⟩
          refine q_lst S9 h37 (by show 1 ≤ 100000; decide) (fun a2 H9 w2 S10 h38 => ?_)
          obtain ⟨z1, hq5, hm10⟩ := bindS hm9
          have h39 := ls_O S10 h38
          refine q_cat S10 (ls_M S10 h36) h39 hq5 (fun v11 G9 H10 e9 S11 h40 => ?_)
          have h41 := R.up e9 h33
          have h42 := R.up e9 h34
          have h43 := R.up e9 h35
          have E9 := E8.trans e9
          refine gNil' ?_
          refine q_tup3 (K := K) S11 (show R.rel rInt G9 (V.int (1 : Int)) (1 : Int) from rfl) (show R.rel (rT K rInt) G9 v8 t2 from h43) (show R.rel (rM (rP2 K rBool rInt)) G9 v11 z1 from h40) (fun v12 G10 H11 e10 S12 h44 => ?_)
          have h45 := R.up e10 h41
          have h46 := R.up e10 h42
          have E10 := E9.trans e10
          have S13 := S12.tail
          cases hm10
          exact q v12 G10 H11 E10 S13 h44
        · skip
          have hm11 := (if_neg c3).symm.trans hm6
          refine gNext ?_
          refine gE ?_
          refine gS_IfS ?_
          refine gNot ?_
          refine gTru ?_
          refine gV rfl ?_
          refine q_truT S0 h3 ?_
          refine ite2 (fun c4 => ?_) (fun c4 => ?_)
          · skip
            have hm12 := (if_pos c4).symm.trans hm11
            refine gRet ?_
            refine gTup' ?_
            refine gCons' ?_
            refine gC ?_
            refine gCons' ?_
            refine gTup' ?_
            refine gNil' ?_
            have h47 : Al rInt G0 [] ([] : List Int) := True.intro
            obtain ⟨t3, hq6, hm13⟩ := bindS hm12
            refine q_tupH (K := K) S0 h47 hq6 (fun v13 G11 H12 e11 S14 h48 => ?_)
            have h49 := R.up e11 h1
            have h50 := R.up e11 h3
            have E11 := E0.trans e11
            refine gCons' ?_
            refine gLst ?_
            refine gCons' ?_
            refine gTup' ?_
            refine gCons' ?_
            refine gC ?_
            refine gCons' ?_
            refine gC ?_
            refine gNil' ?_
            refine q_tup2 (K := K) S14 (show R.rel rBool G11 (V.bl true) true from rfl) (show R.rel rInt G11 (V.int (0 : Int)) (0 : Int) from rfl) (fun v14 G12 H13 e12 S15 h51 => ?_)
            have h52 := R.up e12 h49
            have h53 := R.up e12 h50
            have h54 := R.up e12 h48
            have E12 := E11.trans e12
            refine gNil' ?_
            have h55 : Al (rP2 K rBool rInt) G12 [v14] [(true, (0 : Int))] := ⟨h51, True.intro⟩
            refine q_lst S15 h55 (by show 1 ≤ 100000; decide) (fun a3 H14 w3 S16 h56 => ?_)
            refine gNil' ?_
            obtain ⟨G13, e13, S17, h57⟩ := frz_M S16 h56
            have h58 := R.up e13 h52
            have h59 := R.up e13 h53
            have h60 := R.up e13 h54
            have E13 := E12.trans e13
            refine q_tup3 (K := K) S17 (show R.rel rInt G13 (V.int (1 : Int)) (1 : Int) from rfl) (show R.rel (rT K rInt) G13 v13 t3 from h60) (show R.rel (rM (rP2 K rBool rInt)) G13 (V.ref a3) ([(true, (0 : Int))] : List (Bool × Int)) from h57) (fun v15 G14 H15 e14 S18 h61 => ?_)
            have h62 := R.up e14 h58
            have h63 := R.up e14 h59
            have E14 := E13.trans e14
            cases hm13
            exact q v15 G14 H15 E14 S18 h61
          · skip
            have hm14 := (if_neg c4).symm.trans hm11
            refine gNext ?_
            refine gE ?_
            refine gS_AsgN ?_
            refine gCall ?_
            refine gCons' ?_
            refine gV rfl ?_
            refine gNil' ?_
            obtain ⟨r3, hq7, hm15⟩ := bindS hm14
            refine ⟨G0, (O), v3, side1.2, rfl, S0, h3, r3, hq7, fun v16 G15 H16 e15 S19 h64 => ?_⟩
            have h65 := R.up e15 h1
            have h66 := R.up e15 h3
            have E15 := E0.trans e15
            refine gS_AsgN ?_
            refine gCall ?_
            refine gCons' ?_
            refine gV rfl ?_
            refine gNil' ?_
            obtain ⟨r4, hq8, hm16⟩ := bindS hm15
            refine ⟨G15, (O), v3, side1.2, rfl, S19, h66, r4, hq8, fun G16 H17 e16 S20 => ?_⟩
            have h67 := R.up e16 h65
            have h68 := R.up e16 h66
            have h69 := R.up e16 h64
            have E16 := E15.trans e16
            refine gS_IfS ?_
            refine gTest ?_
            refine gOp ?_
            refine gOp ?_
            refine gOp ?_
            refine gV rfl ?_
            refine gV rfl ?_
            refine ⟨_, _, rfl, rfl, ?_⟩
            refine gC ?_
            refine ⟨_, _, rfl, rfl, ?_⟩
            refine gV rfl ?_
            refine ⟨_, _, rfl, rfl, ?_⟩
            refine ⟨(decide (((r4 + space1) + (1 : Int)) ≤ length1)), rfl, ?_⟩
            refine ite2 (fun c5 => ?_) (fun c5 => ?_)
            · skip
              have hm17 := (if_pos c5).symm.trans hm16
              refine gRet ?_
              refine gTup' ?_
              refine gCons' ?_
              refine gOp ?_
              refine gOp ?_
              refine gV rfl ?_
              refine gV rfl ?_
              refine ⟨_, _, rfl, rfl, ?_⟩
              refine gC ?_
              refine ⟨_, _, rfl, rfl, ?_⟩
              refine gCons' ?_
              refine gTup' ?_
              refine gNil' ?_
              have h70 : Al rInt G16 [] ([] : List Int) := True.intro
              obtain ⟨t4, hq9, hm18⟩ := bindS hm17
              refine q_tupH (K := K) S20 h70 hq9 (fun v17 G17 H18 e17 S21 h71 => ?_)
              have h72 := R.up e17 h67
              have h73 := R.up e17 h68
              have h74 := R.up e17 h69
              have E17 := E16.trans e17
              refine gCons' ?_
              refine gOp ?_
              refine gV rfl ?_
              refine gLst ?_
              refine gCons' ?_
              refine gTup' ?_
              refine gCons' ?_
              refine gC ?_
              refine gCons' ?_
              refine gOp ?_
              refine gV rfl ?_
              refine gV rfl ?_
              refine ⟨_, _, rfl, rfl, ?_⟩
              refine gNil' ?_
              refine q_tup2 (K := K) S21 (show R.rel rBool G17 (V.bl false) false from rfl) (show R.rel rInt G17 (V.int (r4 + space1)) (r4 + space1) from rfl) (fun v18 G18 H19 e18 S22 h75 => ?_)
              have h76 := R.up e18 h72
              have h77 := R.up e18 h73
              have h78 := R.up e18 h74
              have h79 := R.up e18 h71
              have E18 := E17.trans e18
              refine gNil' ?_
              have h80 : Al (rP2 K rBool rInt) G18 [v18] [(false, (r4 + space1))] := ⟨h75, True.intro⟩
              refine q_lst S22 h80 (by show 1 ≤ 100000; decide) (fun a4 H20 w4 S23 h81 => ?_)
              obtain ⟨z2, hq10, hm19⟩ := bindS hm18
              have h82 := ls_O S23 h81
              refine q_cat S23 (ls_M S23 h78) h82 hq10 (fun v19 G19 H21 e19 S24 h83 => ?_)
              have h84 := R.up e19 h76
              have h85 := R.up e19 h77
              have h86 := R.up e19 h78
              have h87 := R.up e19 h79
              have E19 := E18.trans e19
              refine gNil' ?_
              refine q_tup3 (K := K) S24 (show R.rel rInt G19 (V.int ((r4 + space1) + (1 : Int))) ((r4 + space1) + (1 : Int)) from rfl) (show R.rel (rT K rInt) G19 v17 t4 from h87) (show R.rel (rM (rP2 K rBool rInt)) G19 v19 z2 from h83) (fun v20 G20 H22 e20 S25 h88 => ?_)
              have h89 := R.up e20 h84
              have h90 := R.up e20 h85
              have h91 := R.up e20 h86
              have E20 := E19.trans e20
              have S26 := S25.tail
              cases hm19
              exact q v20 G20 H22 E20 S26 h88
            · skip
              have hm20 := (if_neg c5).symm.trans hm16
              refine gNext ?_
              refine gE ?_
              refine gRet ?_
              refine gTup' ?_
              refine gCons' ?_
              refine gC ?_
              refine gCons' ?_
              refine gTup' ?_
              refine gNil' ?_
              have h92 : Al rInt G16 [] ([] : List Int) := True.intro
              obtain ⟨t5, hq11, hm21⟩ := bindS hm20
              refine q_tupH (K := K) S20 h92 hq11 (fun v21 G21 H23 e21 S27 h93 => ?_)
              have h94 := R.up e21 h67
              have h95 := R.up e21 h68
              have h96 := R.up e21 h69
              have E21 := E16.trans e21
              refine gCons' ?_
              refine gOp ?_
              refine gV rfl ?_
              refine gLst ?_
              refine gCons' ?_
              refine gTup' ?_
              refine gCons' ?_
              refine gC ?_
              refine gCons' ?_
              refine gC ?_
              refine gNil' ?_
              refine q_tup2 (K := K) S27 (show R.rel rBool G21 (V.bl true) true from rfl) (show R.rel rInt G21 (V.int (0 : Int)) (0 : Int) from rfl) (fun v22 G22 H24 e22 S28 h97 => ?_)
              have h98 := R.up e22 h94
              have h99 := R.up e22 h95
              have h100 := R.up e22 h96
              have h101 := R.up e22 h93
              have E22 := E21.trans e22
              refine gNil' ?_
              have h102 : Al (rP2 K rBool rInt) G22 [v22] [(true, (0 : Int))] := ⟨h97, True.intro⟩
              refine q_lst S28 h102 (by show 1 ≤ 100000; decide) (fun a5 H25 w5 S29 h103 => ?_)
              obtain ⟨z3, hq12, hm22⟩ := bindS hm21
              have h104 := ls_O S29 h103
              refine q_cat S29 (ls_M S29 h100) h104 hq12 (fun v23 G23 H26 e23 S30 h105 => ?_)
              have h106 := R.up e23 h98
              have h107 := R.up e23 h99
              have h108 := R.up e23 h100
              have h109 := R.up e23 h101
              have E23 := E22.trans e23
              refine gNil' ?_
              refine q_tup3 (K := K) S30 (show R.rel rInt G23 (V.int (1 : Int)) (1 : Int) from rfl) (show R.rel (rT K rInt) G23 v21 t5 from h109) (show R.rel (rM (rP2 K rBool rInt)) G23 v23 z3 from h105) (fun v24 G24 H27 e24 S31 h110 => ?_)
              have h111 := R.up e24 h106
              have h112 := R.up e24 h107
              have h113 := R.up e24 h108
              have E24 := E23.trans e24
              have S32 := S31.tail
              cases hm22
              exact q v24 G24 H27 E24 S32 h110
end
end Mr

set_option Elab.async false
set_option linter.all false
set_option maxRecDepth 100000
set_option maxHeartbeats 4000000
set_option synthInstance.maxSize 4000
set_option synthInstance.maxHeartbeats 400000
namespace Mr
open PySem PySem.Spec PyProof.Rows L2
section
variable {P : Program} {w : World} {K : PySem.W.Frag} {mg : Str → Option Value} {base : Heap}
theorem sc_close_side : FnScope ["length", "side", "kept", "rows", "offsets", "settled"] ["length", "side", "kept"] (defScope s_close_side) := ⟨rfl, rfl, rfl, by decide +kernel, rfl, by decide +kernel, by decide +kernel⟩
theorem ok_close_side (T : Tx K mg) : FnOk P w K mg base CX0 3 (He.fAd K ("close_side", none)) T.fd_close_side ["length", "side", "kept"] (sp_close_side K) := by
  have G_back_rows := ok_back_rows (P := P) (w := w) (base := base) T
  have G_staying := ok_staying (P := P) (w := w) (base := base) T
  refine T.F_close_side.ok sc_close_side (fun vs H Q E h => ?_) (fun cdv A outer s H0 vs Q E hr h => ?_)
  · obtain ⟨G, O, length1, v1, side1, kept1, rfl, _⟩ := h
    rfl
  · obtain ⟨G0, O, length1, v1, side1, kept1, rfl, S0, h1, res, hm, q⟩ := h
    refine ⟨_, PSs.nox (pss_cons (ps_asg (pv 1) (pg_tup rfl (pgs_cons (pg_name (i := 3) sc_close_side.nd rfl (.inl rfl)) (pgs_cons (pg_name (i := 4) sc_close_side.nd rfl (.inl rfl)) pgs_nil))))
      (pss_cons (ps_if (pt_val (pv 2)) (pss_cons (ps_if (pt_cut (PW.pt (pw_and (pt_cmpR op_eqI (pv 3) (pv 0) (nomark _)) (pw_and1 (pt_not (pt_truM (pv 4))))))) (pss_one (ps_ret (pe_tup (pa_cons (pe_tup (pa_cons pe_str (pa_cons pe_int (pa_cons pe_int pa_nil)))) (pa_cons (pe_tup pa_nil) (pa_cons (pe_lst pa_nil) pa_nil)))))) pss_nil)
      (pss_one (ps_ret (pe_tup (pa_cons (pe_tup (pa_cons pe_str (pa_cons (pv 3) (pa_cons (pe_call G_back_rows (hr.mono (by decide)) (by rfl) T.g_back_rows T.F_back_rows.kp T.b_back_rows .nil pass0 (pa_cons (pv 4) pa_nil)) pa_nil)))) (pa_cons (pv 4) (pa_cons (pe_lst pa_nil) pa_nil))))))) pss_nil)
      (pss_cons (ps_set (i := 5) sc_close_side.nd rfl (.inl rfl) (pe_call G_staying (hr.mono (by decide)) (by rfl) T.g_staying T.F_staying.kp T.b_staying .nil pass0 (pa_cons (pv 3) (pa_cons (pv 4) pa_nil))))
      (pss_cons (ps_if (pt_cmpR op_eqI (pv 3) (pv 0) (nomark _)) (pss_one (ps_ret (pe_tup (pa_cons (pe_tup (pa_cons pe_str (pa_cons pe_int (pa_cons pe_int pa_nil)))) (pa_cons (pe_tup pa_nil) (pa_cons (pv 5) pa_nil)))))) pss_nil)
      (pss_one (ps_ret (pe_tup (pa_cons (pe_tup (pa_cons pe_str (pa_cons (pv 3) (pa_cons pe_int pa_nil)))) (pa_cons (pe_tup pa_nil) (pa_cons (pv 5) pa_nil)))))))))), ?_⟩
    have E0 := Ext.refl G0
    have hm0 : (if kept1 then (if ((decide (side1.1 = length1)) && (!(!side1.2.isEmpty))) then (Option.bind (szM ([] : List Int)) fun t1 =>
  some ((Wd.top, (0 : Int), (0 : Int)), t1, ([] : List (Bool × Int))))
  else (Option.bind (m_back_rows side1.2) fun r1 =>
  some ((Wd.kept, side1.1, r1), side1.2, ([] : List (Bool × Int)))))
  else (Option.bind (m_staying side1.1 side1.2) fun r2 =>
  if (decide (side1.1 = length1)) then (Option.bind (szM ([] : List Int)) fun t2 =>
  some ((Wd.top, (0 : Int), (0 : Int)), t2, r2))
  else (Option.bind (szM ([] : List Int)) fun t3 =>
  some ((Wd.opn, side1.1, (0 : Int)), t3, r2)))) = some res := hm
    refine gS_Asg ?_
    refine gV rfl ?_
    refine q_gt2 S0 h1 (fun v2 v3 h2 h3 => ?_)
    obtain rfl := (show v2 = (V.int side1.1) from h2)
    refine gS_IfS ?_
    refine gB ?_
    refine gV rfl ?_
    refine ⟨kept1, rfl, ?_⟩
    refine ite2 (fun c1 => ?_) (fun c1 => ?_)
    · skip
      have hm1 := (if_pos c1).symm.trans hm0
      refine gS_IfS ?_
      refine gCT (fun (b : Bool) (H : Hp) => ∃ (G : Hp), Ext G0 G ∧ Sub G (O) H ∧ b = ((decide (side1.1 = length1)) && (!(!side1.2.isEmpty)))) ?_ ?_
      · skip
        refine gAnd ?_
        refine gTest ?_
        refine gOp ?_
        refine gV rfl ?_
        refine gV rfl ?_
        refine ⟨_, _, rfl, rfl, ?_⟩
        refine ⟨(decide (side1.1 = length1)), rfl, ?_⟩
        refine ite2 (fun c2 => ?_) (fun c2 => ?_)
        · skip
          refine gNot ?_
          refine gTru ?_
          refine gV rfl ?_
          refine q_truT S0 h3 ?_
          exact ⟨G0, (Ext.refl _), S0, (by rw [c2, Bool.true_and])⟩
        · skip
          exact ⟨G0, (Ext.refl _), S0, (by rw [ne_false c2, Bool.false_and])⟩
      · intro b1 H1 hJ
        obtain ⟨G1, e1, S1, rfl⟩ := hJ
        have h4 := R.up e1 h1
        have h5 := R.up e1 h3
        have E1 := E0.trans e1
        refine ite2 (fun c3 => ?_) (fun c3 => ?_)
        · skip
          have hm2 := (if_pos c3).symm.trans hm1
          refine gRet ?_
          refine gTup' ?_
          refine gCons' ?_
          refine gTup' ?_
          refine gCons' ?_
          refine gC ?_
          refine gCons' ?_
          refine gC ?_
          refine gCons' ?_
          refine gC ?_
          refine gNil' ?_
          refine q_tup3 (K := K) S1 (show R.rel (rEn e_Wd) G1 (V.str (e_Wd Wd.top)) Wd.top from rfl) (show R.rel rInt G1 (V.int (0 : Int)) (0 : Int) from rfl) (show R.rel rInt G1 (V.int (0 : Int)) (0 : Int) from rfl) (fun v4 G2 H2 e2 S2 h6 => ?_)
          have h7 := R.up e2 h4
          have h8 := R.up e2 h5
          have E2 := E1.trans e2
          refine gCons' ?_
          refine gTup' ?_
          refine gNil' ?_
          have h9 : Al rInt G2 [] ([] : List Int) := True.intro
          obtain ⟨t1, hq1, hm3⟩ := bindS hm2
          refine q_tupH (K := K) S2 h9 hq1 (fun v5 G3 H3 e3 S3 h10 => ?_)
          have h11 := R.up e3 h7
          have h12 := R.up e3 h8
          have h13 := R.up e3 h6
          have E3 := E2.trans e3
          refine gCons' ?_
          refine gLst ?_
          refine gNil' ?_
          have h14 : Al (rP2 K rBool rInt) G3 [] [] := True.intro
          refine q_lst S3 h14 (by show 0 ≤ 100000; decide) (fun a1 H4 w1 S4 h15 => ?_)
          refine gNil' ?_
          obtain ⟨G4, e4, S5, h16⟩ := frz_M S4 h15
          have h17 := R.up e4 h11
          have h18 := R.up e4 h12
          have h19 := R.up e4 h13
          have h20 := R.up e4 h10
          have E4 := E3.trans e4
          refine q_tup3 (K := K) S5 (show R.rel (rP3 K (rEn e_Wd) rInt rInt) G4 v4 (Wd.top, (0 : Int), (0 : Int)) from h19) (show R.rel (rT K rInt) G4 v5 t1 from h20) (show R.rel (rM (rP2 K rBool rInt)) G4 (V.ref a1) ([] : List (Bool × Int)) from h16) (fun v6 G5 H5 e5 S6 h21 => ?_)
          have h22 := R.up e5 h17
          have h23 := R.up e5 h18
          have E5 := E4.trans e5
          cases hm3
          exact q v6 G5 H5 E5 S6 h21
        · skip
          have hm4 := (if_neg c3).symm.trans hm1
          refine gNext ?_
          refine gE ?_
          refine gRet ?_
          refine gTup' ?_
          refine gCons' ?_
          refine gTup' ?_
          refine gCons' ?_
          refine gC ?_
          refine gCons' ?_
          refine gV rfl ?_
          refine gCons' ?_
          refine gCall ?_
          refine gCons' ?_
          refine gV rfl ?_
          refine gNil' ?_
          obtain ⟨r1, hq2, hm5⟩ := bindS hm4
          refine ⟨G1, (O), v3, side1.2, rfl, S1, h5, r1, hq2, fun G6 H6 e6 S7 => ?_⟩
          have h24 := R.up e6 h4
          have h25 := R.up e6 h5
          have E6 := E1.trans e6
          refine gNil' ?_
          refine q_tup3 (K := K) S7 (show R.rel (rEn e_Wd) G6 (V.str (e_Wd Wd.kept)) Wd.kept from rfl) (show R.rel rInt G6 (V.int side1.1) side1.1 from rfl) (show R.rel rInt G6 (V.int r1) r1 from rfl) (fun v7 G7 H7 e7 S8 h26 => ?_)
          have h27 := R.up e7 h24
          have h28 := R.up e7 h25
          have E7 := E6.trans e7
          refine gCons' ?_
          refine gV rfl ?_
          refine gCons' ?_
          refine gLst ?_
          refine gNil' ?_
          have h29 : Al (rP2 K rBool rInt) G7 [] [] := True.intro
          refine q_lst S8 h29 (by show 0 ≤ 100000; decide) (fun a2 H8 w2 S9 h30 => ?_)
          refine gNil' ?_
          obtain ⟨G8, e8, S10, h31⟩ := frz_M S9 h30
          have h32 := R.up e8 h27
          have h33 := R.up e8 h28
          have h34 := R.up e8 h26
          have E8 := E7.trans e8
          refine q_tup3 (K := K) S10 (show R.rel (rP3 K (rEn e_Wd) rInt rInt) G8 v7 (Wd.kept, side1.1, r1) from h34) (show R.rel (rT K rInt) G8 v3 side1.2 from h33) (show R.rel (rM (rP2 K rBool rInt)) G8 (V.ref a2) ([] : List (Bool × Int)) from h31) (fun v8 G9 H9 e9 S11 h35 => ?_)
          have h36 := R.up e9 h32
          have h37 := R.up e9 h33
          have E9 := E8.trans e9
          cases hm5
          exact q v8 G9 H9 E9 S11 h35
    · skip
      have hm6 := (if_neg c1).symm.trans hm0
      refine gNext ?_
      refine gE ?_
      refine gS_AsgN ?_
      refine gCall ?_
      refine gCons' ?_
      refine gV rfl ?_
      refine gCons' ?_
      refine gV rfl ?_
      refine gNil' ?_
      obtain ⟨r2, hq3, hm7⟩ := bindS hm6
      refine ⟨G0, (O), side1.1, v3, side1.2, rfl, S0, h3, r2, hq3, fun v9 G10 H10 e10 S12 h38 => ?_⟩
      have h39 := R.up e10 h1
      have h40 := R.up e10 h3
      have E10 := E0.trans e10
      refine gS_IfS ?_
      refine gTest ?_
      refine gOp ?_
      refine gV rfl ?_
      refine gV rfl ?_
      refine ⟨_, _, rfl, rfl, ?_⟩
      refine ⟨(decide (side1.1 = length1)), rfl, ?_⟩
      refine ite2 (fun c4 => ?_) (fun c4 => ?_)
      · skip
        have hm8 := (if_pos c4).symm.trans hm7
        refine gRet ?_
        refine gTup' ?_
        refine gCons' ?_
        refine gTup' ?_
        refine gCons' ?_
        refine gC ?_
        refine gCons' ?_
        refine gC ?_
        refine gCons' ?_
        refine gC ?_
        refine gNil' ?_
        refine q_tup3 (K := K) S12 (show R.rel (rEn e_Wd) G10 (V.str (e_Wd Wd.top)) Wd.top from rfl) (show R.rel rInt G10 (V.int (0 : Int)) (0 : Int) from rfl) (show R.rel rInt G10 (V.int (0 : Int)) (0 : Int) from rfl) (fun v10 G11 H11 e11 S13 h41 => ?_)
        have h42 := R.up e11 h39
        have h43 := R.up e11 h40
        have h44 := R.up e11 h38
        have E11 := E10.trans e11
        refine gCons' ?_
        refine gTup' ?_
        refine gNil' ?_
        have h45 : Al rInt G11 [] ([] : List Int) := True.intro
        obtain ⟨t2, hq4, hm9⟩ := bindS hm8
        refine q_tupH (K := K) S13 h45 hq4 (fun v11 G12 H12 e12 S14 h46 => ?_)
        have h47 := R.up e12 h42
        have h48 := R.up e12 h43
        have h49 := R.up e12 h44
        have h50 := R.up e12 h41
        have E12 := E11.trans e12
        refine gCons' ?_
        refine gV rfl ?_
        refine gNil' ?_
        refine q_tup3 (K := K) S14 (show R.rel (rP3 K (rEn e_Wd) rInt rInt) G12 v10 (Wd.top, (0 : Int), (0 : Int)) from h50) (show R.rel (rT K rInt) G12 v11 t2 from h46) (show R.rel (rM (rP2 K rBool rInt)) G12 v9 r2 from h49) (fun v12 G13 H13 e13 S15 h51 => ?_)
        have h52 := R.up e13 h47
        have h53 := R.up e13 h48
        have h54 := R.up e13 h49
        have E13 := E12.trans e13
        cases hm9
        exact q v12 G13 H13 E13 S15 h51
      · skip
        have hm10 := (if_neg c4).symm.trans hm7
        refine gNext ?_
        refine gE ?_
        refine gRet ?_
        refine gTup' ?_
        refine gCons' ?_
        refine gTup' ?_
        refine gCons' ?_
        refine gC ?_
        refine gCons' ?_
        refine gV rfl ?_
        refine gCons' ?_
        refine gC ?_
        refine gNil' ?_
        refine q_tup3 (K := K) S12 (show R.rel (rEn e_Wd) G10 (V.str (e_Wd Wd.opn)) Wd.opn from rfl) (show R.rel rInt G10 (V.int side1.1) side1.1 from rfl) (show R.rel rInt G10 (V.int (0 : Int)) (0 : Int) from rfl) (fun v13 G14 H14 e14 S16 h55 => ?_)
        have h56 := R.up e14 h39
        have h57 := R.up e14 h40
        have h58 := R.up e14 h38
        have E14 := E10.trans e14
        refine gCons' ?_
        refine gTup' ?_
        refine gNil' ?_
        have h59 : Al rInt G14 [] ([] : List Int) := True.intro
        obtain ⟨t3, hq5, hm11⟩ := bindS hm10
        refine q_tupH (K := K) S16 h59 hq5 (fun v14 G15 H15 e15 S17 h60 => ?_)
        have h61 := R.up e15 h56
        have h62 := R.up e15 h57
        have h63 := R.up e15 h58
        have h64 := R.up e15 h55
        have E15 := E14.trans e15
        refine gCons' ?_
        refine gV rfl ?_
        refine gNil' ?_
        refine q_tup3 (K := K) S17 (show R.rel (rP3 K (rEn e_Wd) rInt rInt) G15 v13 (Wd.opn, side1.1, (0 : Int)) from h64) (show R.rel (rT K rInt) G15 v14 t3 from h60) (show R.rel (rM (rP2 K rBool rInt)) G15 v9 r2 from h63) (fun v15 G16 H16 e16 S18 h65 => ?_)
        have h66 := R.up e16 h61
        have h67 := R.up e16 h62
        have h68 := R.up e16 h63
        have E16 := E15.trans e16
        cases hm11
        exact q v15 G16 H16 E16 S18 h65
end
end Mr

set_option Elab.async false
set_option linter.all false
set_option maxRecDepth 100000
set_option maxHeartbeats 4000000
set_option synthInstance.maxSize 4000
set_option synthInstance.maxHeartbeats 400000
namespace Mr
open PySem PySem.Spec PyProof.Rows L2
section
variable {P : Program} {w : World} {K : PySem.W.Frag} {mg : Str → Option Value} {base : Heap}
theorem sc_fresh_side : FnScope ["standing", "offsets"] ["standing", "offsets"] (defScope s_fresh_side) := ⟨rfl, rfl, rfl, by decide +kernel, rfl, by decide +kernel, by decide +kernel⟩
theorem ok_fresh_side (T : Tx K mg) : FnOk P w K mg base CX0 3 (He.fAd K ("fresh_side", none)) T.fd_fresh_side ["standing", "offsets"] (sp_fresh_side K) := by
  have G_staying := ok_staying (P := P) (w := w) (base := base) T
  refine T.F_fresh_side.ok sc_fresh_side (fun vs H Q E h => ?_) (fun cdv A outer s H0 vs Q E hr h => ?_)
  · obtain ⟨G, O, v1, standing1, v2, offsets1, rfl, _⟩ := h
    rfl
  · obtain ⟨G0, O, v1, standing1, v2, offsets1, rfl, S0, h1, h2, res, hm, q⟩ := h
    refine ⟨_, PSs.nox (pss_one (ps_ret (pe_tup (pa_cons (pe_tup (pa_cons pe_str (pa_cons pe_int (pa_cons pe_int pa_nil)))) (pa_cons (pe_tup pa_nil) (pa_cons (pe_call G_staying (hr.mono (by decide)) (by rfl) T.g_staying T.F_staying.kp T.b_staying .nil pass0 (pa_cons (pe_ix ix_tup (pv 0) pe_int (fun _ _ => rfl)) (pa_cons (pv 1) pa_nil))) pa_nil)))))), ?_⟩
    have E0 := Ext.refl G0
    have hm0 : (Option.bind (szM ([] : List Int)) fun t1 =>
  Option.bind (m_staying standing1.2.1 offsets1) fun r1 =>
  some ((Wd.top, (0 : Int), (0 : Int)), t1, r1)) = some res := hm
    refine gRet ?_
    refine gTup' ?_
    refine gCons' ?_
    refine gTup' ?_
    refine gCons' ?_
    refine gC ?_
    refine gCons' ?_
    refine gC ?_
    refine gCons' ?_
    refine gC ?_
    refine gNil' ?_
    refine q_tup3 (K := K) S0 (show R.rel (rEn e_Wd) G0 (V.str (e_Wd Wd.top)) Wd.top from rfl) (show R.rel rInt G0 (V.int (0 : Int)) (0 : Int) from rfl) (show R.rel rInt G0 (V.int (0 : Int)) (0 : Int) from rfl) (fun v3 G1 H1 e1 S1 h3 => ?_)
    have h4 := R.up e1 h1
    have h5 := R.up e1 h2
    have E1 := E0.trans e1
    refine gCons' ?_
    refine gTup' ?_
    refine gNil' ?_
    have h6 : Al rInt G1 [] ([] : List Int) := True.intro
    obtain ⟨t1, hq1, hm1⟩ := bindS hm0
    refine q_tupH (K := K) S1 h6 hq1 (fun v4 G2 H2 e2 S2 h7 => ?_)
    have h8 := R.up e2 h4
    have h9 := R.up e2 h5
    have h10 := R.up e2 h3
    have E2 := E1.trans e2
    refine gCons' ?_
    refine gCall ?_
    refine gCons' ?_
    refine gOp ?_
    refine gV rfl ?_
    refine gC ?_
    refine q_p3_1 S2 h8 (fun v5 h11 => ?_)
    obtain rfl := (show v5 = (V.int standing1.2.1) from h11)
    refine gCons' ?_
    refine gV rfl ?_
    refine gNil' ?_
    obtain ⟨r1, hq2, hm2⟩ := bindS hm1
    refine ⟨G2, (O), standing1.2.1, v2, offsets1, rfl, S2, h9, r1, hq2, fun v6 G3 H3 e3 S3 h12 => ?_⟩
    have h13 := R.up e3 h8
    have h14 := R.up e3 h9
    have h15 := R.up e3 h10
    have h16 := R.up e3 h7
    have E3 := E2.trans e3
    refine gNil' ?_
    refine q_tup3 (K := K) S3 (show R.rel (rP3 K (rEn e_Wd) rInt rInt) G3 v3 (Wd.top, (0 : Int), (0 : Int)) from h15) (show R.rel (rT K rInt) G3 v4 t1 from h16) (show R.rel (rM (rP2 K rBool rInt)) G3 v6 r1 from h12) (fun v7 G4 H4 e4 S4 h17 => ?_)
    have h18 := R.up e4 h13
    have h19 := R.up e4 h14
    have E4 := E3.trans e4
    cases hm2
    exact q v7 G4 H4 E4 S4 h17
end
end Mr

set_option Elab.async false
set_option linter.all false
set_option maxRecDepth 100000
set_option maxHeartbeats 4000000
set_option synthInstance.maxSize 4000
set_option synthInstance.maxHeartbeats 400000
namespace Mr
open PySem PySem.Spec PyProof.Rows L2
section
variable {P : Program} {w : World} {K : PySem.W.Frag} {mg : Str → Option Value} {base : Heap}
theorem sc_joint_begin : FnScope [] [] (defScope s_joint_begin) := ⟨rfl, rfl, rfl, by decide +kernel, rfl, by decide +kernel, by decide +kernel⟩
theorem ok_joint_begin (T : Tx K mg) : FnOk P w K mg base CX0 1 (He.fAd K ("joint_begin", none)) T.fd_joint_begin [] (sp_joint_begin K) := by
  refine T.F_joint_begin.ok sc_joint_begin (fun vs H Q E h => ?_) (fun cdv A outer s H0 vs Q E hr h => ?_)
  · obtain ⟨G, O, rfl, _⟩ := h
    rfl
  · obtain ⟨G0, O, rfl, S0, res, hm, q⟩ := h
    refine ⟨_, PSs.nox (pss_one (ps_ret (pe_tup (pa_cons (pe_tup (pa_cons pe_str (pa_cons pe_int (pa_cons pe_int pa_nil)))) (pa_cons (pe_tup pa_nil) (pa_cons (pe_tup (pa_cons pe_str (pa_cons pe_int (pa_cons pe_int pa_nil)))) (pa_cons (pe_tup pa_nil) (pa_cons (pe_tup pa_nil) pa_nil)))))))), ?_⟩
    have E0 := Ext.refl G0
    have hm0 : (Option.bind (szM ([] : List Int)) fun t1 =>
  Option.bind (szM ([] : List Int)) fun t2 =>
  Option.bind (szM ([] : List (Bool × Int))) fun t3 =>
  some (some ((Wd.top, (0 : Int), (0 : Int)), t1, (Wd.top, (0 : Int), (0 : Int)), t2, t3))) = some res := hm
    refine gRet ?_
    refine gTup' ?_
    refine gCons' ?_
    refine gTup' ?_
    refine gCons' ?_
    refine gC ?_
    refine gCons' ?_
    refine gC ?_
    refine gCons' ?_
    refine gC ?_
    refine gNil' ?_
    refine q_tup3 (K := K) S0 (show R.rel (rEn e_Wd) G0 (V.str (e_Wd Wd.top)) Wd.top from rfl) (show R.rel rInt G0 (V.int (0 : Int)) (0 : Int) from rfl) (show R.rel rInt G0 (V.int (0 : Int)) (0 : Int) from rfl) (fun v1 G1 H1 e1 S1 h1 => ?_)
    have E1 := E0.trans e1
    refine gCons' ?_
    refine gTup' ?_
    refine gNil' ?_
    have h2 : Al rInt G1 [] ([] : List Int) := True.intro
    obtain ⟨t1, hq1, hm1⟩ := bindS hm0
    refine q_tupH (K := K) S1 h2 hq1 (fun v2 G2 H2 e2 S2 h3 => ?_)
    have h4 := R.up e2 h1
    have E2 := E1.trans e2
    refine gCons' ?_
    refine gTup' ?_
    refine gCons' ?_
    refine gC ?_
    refine gCons' ?_
    refine gC ?_
    refine gCons' ?_
    refine gC ?_
    refine gNil' ?_
    refine q_tup3 (K := K) S2 (show R.rel (rEn e_Wd) G2 (V.str (e_Wd Wd.top)) Wd.top from rfl) (show R.rel rInt G2 (V.int (0 : Int)) (0 : Int) from rfl) (show R.rel rInt G2 (V.int (0 : Int)) (0 : Int) from rfl) (fun v3 G3 H3 e3 S3 h5 => ?_)
    have h6 := R.up e3 h4
    have h7 := R.up e3 h3
    have E3 := E2.trans e3
    refine gCons' ?_
    refine gTup' ?_
    refine gNil' ?_
    have h8 : Al rInt G3 [] ([] : List Int) := True.intro
    obtain ⟨t2, hq2, hm2⟩ := bindS hm1
    refine q_tupH (K := K) S3 h8 hq2 (fun v4 G4 H4 e4 S4 h9 => ?_)
    have h10 := R.up e4 h6
    have h11 := R.up e4 h7
    have h12 := R.up e4 h5
    have E4 := E3.trans e4
    refine gCons' ?_
    refine gTup' ?_
    refine gNil' ?_
    have h13 : Al (rP2 K rBool rInt) G4 [] ([] : List (Bool × Int)) := True.intro
    obtain ⟨t3, hq3, hm3⟩ := bindS hm2
    refine q_tupH (K := K) S4 h13 hq3 (fun v5 G5 H5 e5 S5 h14 => ?_)
    have h15 := R.up e5 h10
    have h16 := R.up e5 h11
    have h17 := R.up e5 h12
    have h18 := R.up e5 h9
    have E5 := E4.trans e5
    refine gNil' ?_
    refine q_tup5 (K := K) S5 (show R.rel (rP3 K (rEn e_Wd) rInt rInt) G5 v1 (Wd.top, (0 : Int), (0 : Int)) from h15) (show R.rel (rT K rInt) G5 v2 t1 from h16) (show R.rel (rP3 K (rEn e_Wd) rInt rInt) G5 v3 (Wd.top, (0 : Int), (0 : Int)) from h17) (show R.rel (rT K rInt) G5 v4 t2 from h18) (show R.rel (rT K (rP2 K rBool rInt)) G5 v5 t3 from h14) (fun v6 G6 H6 e6 S6 h19 => ?_)
    have E6 := E5.trans e6
    cases hm3
    exact q v6 G6 H6 E6 S6 (rA_some (c := Str.ofString "parted") (show R.rel (rP5 K (rP3 K (rEn e_Wd) rInt rInt) (rT K rInt) (rP3 K (rEn e_Wd) rInt rInt) (rT K rInt) (rT K (rP2 K rBool rInt))) G6 v6 ((Wd.top, (0 : Int), (0 : Int)), t1, (Wd.top, (0 : Int), (0 : Int)), t2, t3) from h19))
end
end Mr

set_option Elab.async false
set_option linter.all false
set_option maxRecDepth 100000
set_option maxHeartbeats 4000000
set_option synthInstance.maxSize 4000
set_option synthInstance.maxHeartbeats 400000
namespace Mr
open PySem PySem.Spec PyProof.Rows L2
section
variable {P : Program} {w : World} {K : PySem.W.Frag} {mg : Str → Option Value} {base : Heap}
theorem sc_matched : FnScope ["first", "second", "shared", "at"] ["first", "second"] (defScope s_matched) := ⟨rfl, rfl, rfl, by decide +kernel, rfl, by decide +kernel, by decide +kernel⟩
theorem ok_matched (T : Tx K mg) : FnOk P w K mg base CX0 1 (He.fAd K ("matched", none)) T.fd_matched ["first", "second"] (sp_matched K) := by
  refine T.F_matched.ok sc_matched (fun vs H Q E h => ?_) (fun cdv A outer s H0 vs Q E hr h => ?_)
  · obtain ⟨G, O, v1, first1, v2, second1, rfl, _⟩ := h
    rfl
  · obtain ⟨G0, O, v1, first1, v2, second1, rfl, S0, h1, h2, res, hm, q⟩ := h
    refine ⟨_, PSs.nox (pss_cons (ps_set (i := 2) sc_matched.nd rfl (.inl rfl) (pe_callB (call_min2 rfl) (by rfl) T.z_min boot_min (pa_cons (pe_callB call_lenM (by rfl) T.z_len boot_len (pa_cons (pv 0) pa_nil)) (pa_cons (pe_callB call_lenM (by rfl) T.z_len boot_len (pa_cons (pv 1) pa_nil)) pa_nil))))
      (pss_cons (ps_cut (ps_for PassesOwn.never rfl (pi_range1 (by rfl) T.z_range (pa_cons (pv 2) pa_nil)) (pg_name (i := 3) sc_matched.nd rfl (.inl rfl))
      (pss_one (ps_if (pt_cmpR (op_neD hr.units) (pe_ix ix_list (pv 0) (pv 3) (fun _ _ => rfl)) (pe_ix ix_list (pv 1) (pv 3) (fun _ _ => rfl)) (nomark _)) (pss_one (ps_ret pe_non)) pss_nil))))
      (pss_one (ps_ret (pe_callTy call_tupOf (by rfl) T.z_tuple boot_tuple (pa_cons (pe_op op_cat (pe_slice sl_list (pv 0) (po_some (pv 2)) po_none) (pe_slice sl_list (pv 1) (po_some (pv 2)) po_none)) pa_nil)))))), ?_⟩
    have E0 := Ext.refl G0
    have hm0 : (Option.bind (rngM (if (second1.length : Int) < (first1.length : Int) then (second1.length : Int) else (first1.length : Int))) fun xs1 =>
  Option.bind (forL (m_matched_b1 first1 second1) xs1 ()) fun res => match res with
  | Fl.rt r => some r
  | Fl.nx _ => Option.bind (catM (cutM first1 (some (if (second1.length : Int) < (first1.length : Int) then (second1.length : Int) else (first1.length : Int))) none) (cutM second1 (some (if (second1.length : Int) < (first1.length : Int) then (second1.length : Int) else (first1.length : Int))) none)) fun z1 =>
  some (some z1)) = some res := hm
    refine gS_AsgN ?_
    refine gCB ?_
    refine gCons' ?_
    refine gCB ?_
    refine gCons' ?_
    refine gV rfl ?_
    refine gNil' ?_
    refine q_lenL (y := V.non) S0 (rM_L (K := K) h1) ?_
    refine gCons' ?_
    refine gCB ?_
    refine gCons' ?_
    refine gV rfl ?_
    refine gNil' ?_
    refine q_lenL (y := V.non) S0 (rM_L (K := K) h2) ?_
    refine gNil' ?_
    refine ⟨_, _, rfl, ?_⟩
    obtain ⟨xs1, hq1, hm1⟩ := bindS hm0
    obtain ⟨res1, hl1, hm2⟩ := bindS hm1
    refine gS_CS (fun (σ : L2.St) (H : Hp) => ∃ s : Unit, res1 = Fl.nx s ∧ ∃ (G : Hp) (y1 : Option V), Ext G0 G ∧ Sub G (O) H ∧ σ = [some v1, some v2, some (V.int (if (second1.length : Int) < (first1.length : Int) then (second1.length : Int) else (first1.length : Int))), y1]) ?_ ?_
    · skip
      refine gFor ?_
      refine gIR ?_
      refine gCons' ?_
      refine gV rfl ?_
      refine gNil' ?_
      refine lp_R hq1 hl1 (fun (s : Unit) (σ : L2.St) (H : Hp) => ∃ (G : Hp) (y1 : Option V), Ext G0 G ∧ Sub G (O) H ∧ σ = [some v1, some v2, some (V.int (if (second1.length : Int) < (first1.length : Int) then (second1.length : Int) else (first1.length : Int))), y1]) ⟨G0, _, (Ext.refl _), S0, rfl⟩ ?_ ?_
      · intro i1 x1 s1 b1 hb1 hr1 σ1 H1 hI1
        obtain ⟨G1, y2, e1, S1, rfl⟩ := hI1
        have h4 := R.up e1 h1
        have h5 := R.up e1 h2
        have E1 := E0.trans e1
        have hm3 : (Option.bind (getM first1 x1) fun x2 =>
  Option.bind (getM second1 x1) fun x3 =>
  if (!decide (x2 = x3)) then (some (Bf.rt (none : (Option (List (Bool × Int))))))
  else (some (Bf.go ()))) = some b1 := hb1
        refine gIfS ?_
        refine gTest ?_
        refine gOp ?_
        refine gOp ?_
        refine gV rfl ?_
        refine gV rfl ?_
        obtain ⟨x2, hq2, hm4⟩ := bindS hm3
        refine q_ixL S1 (rM_L (K := K) h4) hq2 (fun v4 h6 => ?_)
        refine gOp ?_
        refine gV rfl ?_
        refine gV rfl ?_
        obtain ⟨x3, hq3, hm5⟩ := bindS hm4
        refine q_ixL S1 (rM_L (K := K) h5) hq3 (fun v5 h7 => ?_)
        refine q_neD (dP2 (dBool (K := K)) (dInt (K := K))) (by show 3 ≤ 64; decide) (R.up S1.ext h6) (R.up S1.ext h7) ((okP2 okB okI) _) ((okP2 okB okI) _) ?_
        refine ⟨(!decide (x2 = x3)), rfl, ?_⟩
        refine ite2 (fun c1 => ?_) (fun c1 => ?_)
        · skip
          have hm6 := (if_pos c1).symm.trans hm5
          refine gRet ?_
          refine gC ?_
          cases hm6
          have hr2 := Option.some.inj (show some (Fl.rt _) = some res1 from hr1)
          subst hr2
          dsimp only at hm2
          cases hm2
          exact q V.non G1 H1 E1 S1 (rO_none : R.rel (rO (rT K (rP2 K rBool rInt))) G1 V.non none)
        · skip
          have hm7 := (if_neg c1).symm.trans hm5
          refine gNext ?_
          cases hm7
          exact ⟨_, ⟨G1, _, e1, S1, rfl⟩, hr1⟩
      · intro s σ H h1 h2
        obtain ⟨G, k1, ie, irest⟩ := h2
        exact ⟨s, h1, G, k1, (ie), irest⟩
    · intro σ2 H2 hJ1
      obtain ⟨s2, hres1, hJ2⟩ := hJ1
      subst hres1
      dsimp only at hm2
      obtain ⟨G2, y3, e2, S2, rfl⟩ := hJ2
      have h8 := R.up e2 h1
      have h9 := R.up e2 h2
      have E2 := E0.trans e2
      refine gRet ?_
      refine gCB ?_
      refine gCons' ?_
      refine gOp ?_
      refine gSl ?_
      refine gV rfl ?_
      refine gPart ?_
      refine gV rfl ?_
      refine ⟨_, rfl, ?_⟩
      refine gNoPart ?_
      refine q_slM S2 (rM_L (K := K) h8) (fun v6 G3 H3 e3 S3 h10 => ?_)
      have h11 := R.up e3 h8
      have h12 := R.up e3 h9
      have E3 := E2.trans e3
      refine gSl ?_
      refine gV rfl ?_
      refine gPart ?_
      refine gV rfl ?_
      refine ⟨_, rfl, ?_⟩
      refine gNoPart ?_
      refine q_slM S3 (rM_L (K := K) h12) (fun v7 G4 H4 e4 S4 h13 => ?_)
      have h14 := R.up e4 h11
      have h15 := R.up e4 h12
      have h16 := R.up e4 h10
      have E4 := E3.trans e4
      obtain ⟨z1, hq4, hm8⟩ := bindS hm2
      refine q_cat S4 (ls_M S4 h16) (ls_M S4 h13) hq4 (fun v8 G5 H5 e5 S5 h17 => ?_)
      have h18 := R.up e5 h14
      have h19 := R.up e5 h15
      have E5 := E4.trans e5
      refine gNil' ?_
      refine q_tupL S5 (rM_L (K := K) h17) (fun v9 G6 H6 e6 S6 h20 => ?_)
      have h21 := R.up e6 h18
      have h22 := R.up e6 h19
      have E6 := E5.trans e6
      cases hm8
      exact q v9 G6 H6 E6 S6 (rO_some (nn_T h20) (show R.rel (rT K (rP2 K rBool rInt)) G6 v9 z1 from h20))
end
end Mr

set_option Elab.async false
set_option linter.all false
set_option maxRecDepth 100000
set_option maxHeartbeats 4000000
set_option synthInstance.maxSize 4000
set_option synthInstance.maxHeartbeats 400000
namespace Mr
open PySem PySem.Spec PyProof.Rows L2
section
variable {P : Program} {w : World} {K : PySem.W.Frag} {mg : Str → Option Value} {base : Heap}
theorem sc_settled_lists : FnScope ["first", "second", "settled"] ["first", "second", "settled"] (defScope s_settled_lists) := ⟨rfl, rfl, rfl, by decide +kernel, rfl, by decide +kernel, by decide +kernel⟩
theorem ok_settled_lists (T : Tx K mg) : FnOk P w K mg base CX0 1 (He.fAd K ("settled_lists", none)) T.fd_settled_lists ["first", "second", "settled"] (sp_settled_lists K) := by
  refine T.F_settled_lists.ok sc_settled_lists (fun vs H Q E h => ?_) (fun cdv A outer s H0 vs Q E hr h => ?_)
  · obtain ⟨G, O, v1, first1, v2, second1, v3, settled1, rfl, _⟩ := h
    rfl
  · obtain ⟨G0, O, v1, first1, v2, second1, v3, settled1, rfl, S0, h1, h2, h3, res, hm, q⟩ := h
    refine ⟨_, PSs.nox (pss_cons (ps_if (pt_cmpR op_lt (pe_callB call_lenM (by rfl) T.z_len boot_len (pa_cons (pv 0) pa_nil)) (pe_callB call_lenM (by rfl) T.z_len boot_len (pa_cons (pv 1) pa_nil)) (nomark _)) (pss_one (ps_ret (pe_tup (pa_cons (pe_callTy call_listOf (by rfl) T.z_list boot_list (pa_cons (pv 2) pa_nil)) (pa_cons (pe_lst pa_nil) pa_nil))))) pss_nil)
      (pss_one (ps_ret (pe_tup (pa_cons (pe_lst pa_nil) (pa_cons (pe_callTy call_listOf (by rfl) T.z_list boot_list (pa_cons (pv 2) pa_nil)) pa_nil)))))), ?_⟩
    have E0 := Ext.refl G0
    have hm0 : (if (decide ((first1.length : Int) < (second1.length : Int))) then (some (settled1, ([] : List (Bool × Int))))
  else (some (([] : List (Bool × Int)), settled1))) = some res := hm
    refine gS_IfS ?_
    refine gTest ?_
    refine gOp ?_
    refine gCB ?_
    refine gCons' ?_
    refine gV rfl ?_
    refine gNil' ?_
    refine q_lenT S0 h1 ?_
    refine gCB ?_
    refine gCons' ?_
    refine gV rfl ?_
    refine gNil' ?_
    refine q_lenT S0 h2 ?_
    refine ⟨_, _, rfl, rfl, ?_⟩
    refine ⟨(decide ((first1.length : Int) < (second1.length : Int))), rfl, ?_⟩
    refine ite2 (fun c1 => ?_) (fun c1 => ?_)
    · skip
      have hm1 := (if_pos c1).symm.trans hm0
      refine gRet ?_
      refine gTup' ?_
      refine gCons' ?_
      refine gCB ?_
      refine gCons' ?_
      refine gV rfl ?_
      refine gNil' ?_
      refine q_listM S0 (rT_Q h3) (fun v4 G1 H1 e1 S1 h4 => ?_)
      have h5 := R.up e1 h1
      have h6 := R.up e1 h2
      have h7 := R.up e1 h3
      have E1 := E0.trans e1
      refine gCons' ?_
      refine gLst ?_
      refine gNil' ?_
      have h8 : Al (rP2 K rBool rInt) G1 [] [] := True.intro
      refine q_lst S1 h8 (by show 0 ≤ 100000; decide) (fun a1 H2 w1 S2 h9 => ?_)
      refine gNil' ?_
      obtain ⟨G2, e2, S3, h10⟩ := frz_M S2 h9
      have h11 := R.up e2 h5
      have h12 := R.up e2 h6
      have h13 := R.up e2 h7
      have h14 := R.up e2 h4
      have E2 := E1.trans e2
      refine q_tup2 (K := K) S3 (show R.rel (rM (rP2 K rBool rInt)) G2 v4 settled1 from h14) (show R.rel (rM (rP2 K rBool rInt)) G2 (V.ref a1) ([] : List (Bool × Int)) from h10) (fun v5 G3 H3 e3 S4 h15 => ?_)
      have h16 := R.up e3 h11
      have h17 := R.up e3 h12
      have h18 := R.up e3 h13
      have E3 := E2.trans e3
      cases hm1
      exact q v5 G3 H3 E3 S4 h15
    · skip
      have hm2 := (if_neg c1).symm.trans hm0
      refine gNext ?_
      refine gE ?_
      refine gRet ?_
      refine gTup' ?_
      refine gCons' ?_
      refine gLst ?_
      refine gNil' ?_
      have h19 : Al (rP2 K rBool rInt) G0 [] [] := True.intro
      refine q_lst S0 h19 (by show 0 ≤ 100000; decide) (fun a2 H4 w2 S5 h20 => ?_)
      refine gCons' ?_
      refine gCB ?_
      refine gCons' ?_
      refine gV rfl ?_
      refine gNil' ?_
      refine q_listM S5 (rT_Q h3) (fun v6 G4 H5 e4 S6 h21 => ?_)
      have h22 := R.up e4 h1
      have h23 := R.up e4 h2
      have h24 := R.up e4 h3
      have h25 := Al.up e4 h20
      have E4 := E0.trans e4
      refine gNil' ?_
      obtain ⟨G5, e5, S7, h26⟩ := frz_M S6 h25
      have h27 := R.up e5 h22
      have h28 := R.up e5 h23
      have h29 := R.up e5 h24
      have h30 := R.up e5 h21
      have E5 := E4.trans e5
      refine q_tup2 (K := K) S7 (show R.rel (rM (rP2 K rBool rInt)) G5 (V.ref a2) ([] : List (Bool × Int)) from h26) (show R.rel (rM (rP2 K rBool rInt)) G5 v6 settled1 from h30) (fun v7 G6 H6 e6 S8 h31 => ?_)
      have h32 := R.up e6 h27
      have h33 := R.up e6 h28
      have h34 := R.up e6 h29
      have E6 := E5.trans e6
      cases hm2
      exact q v7 G6 H6 E6 S8 h31
end
end Mr

set_option Elab.async false
set_option linter.all false
set_option maxRecDepth 100000
set_option maxHeartbeats 4000000
set_option synthInstance.maxSize 4000
set_option synthInstance.maxHeartbeats 400000
namespace Mr
open PySem PySem.Spec PyProof.Rows L2
section
variable {P : Program} {w : World} {K : PySem.W.Frag} {mg : Str → Option Value} {base : Heap}
theorem sc_merged : FnScope ["joint", "first", "second", "ahead_one", "ahead_two", "rest"] ["joint", "first", "second"] (defScope s_merged) := ⟨rfl, rfl, rfl, by decide +kernel, rfl, by decide +kernel, by decide +kernel⟩
theorem ok_merged (T : Tx K mg) : FnOk P w K mg base CX0 2 (He.fAd K ("merged", none)) T.fd_merged ["joint", "first", "second"] (sp_merged K) := by
  have G_matched := ok_matched (P := P) (w := w) (base := base) T
  have G_settled_lists := ok_settled_lists (P := P) (w := w) (base := base) T
  obtain ⟨tk_PARTED, c_PARTED⟩ := T.c_PARTED
  refine T.F_merged.ok sc_merged (fun vs H Q E h => ?_) (fun cdv A outer s H0 vs Q E hr h => ?_)
  · obtain ⟨G, O, v1, joint1, v2, first1, v3, second1, rfl, _⟩ := h
    rfl
  · obtain ⟨G0, O, v1, joint1, v2, first1, v3, second1, rfl, S0, h1, h2, h3, res, hm, q⟩ := h
    refine ⟨_, PSs.nox (pss_cons (ps_asg (pe_call G_settled_lists (hr.mono (by decide)) (by rfl) T.g_settled_lists T.F_settled_lists.kp T.b_settled_lists .nil pass0 (pa_cons (pe_ix ix_tup (pv 0) pe_int (fun _ _ => rfl)) (pa_cons (pe_ix ix_tup (pv 0) pe_int (fun _ _ => rfl)) (pa_cons (pe_ix ix_tup (pv 0) pe_int (fun _ _ => rfl)) pa_nil)))) (pg_tup rfl (pgs_cons (pg_name (i := 3) sc_merged.nd rfl (.inl rfl)) (pgs_cons (pg_name (i := 4) sc_merged.nd rfl (.inl rfl)) pgs_nil))))
      (pss_cons (ps_set (i := 5) sc_merged.nd rfl (.inl rfl) (pe_call G_matched (hr.mono (by decide)) (by rfl) T.g_matched T.F_matched.kp T.b_matched .nil pass0 (pa_cons (pe_op op_cat (pv 3) (pe_ix ix_tup (pv 1) pe_int (fun _ _ => rfl))) (pa_cons (pe_op op_cat (pv 4) (pe_ix ix_tup (pv 2) pe_int (fun _ _ => rfl))) pa_nil))))
      (pss_cons (ps_if (pt_cmpR op_isNon (pv 5) pe_non (nomark _)) (pss_one (ps_ret (pe_glob (v := (V.str (Str.ofString "parted"))) (by rfl) c_PARTED ⟨_, rfl⟩))) pss_nil)
      (pss_one (ps_ret (pe_tup (pa_cons (pe_ix ix_tup (pv 1) pe_int (fun _ _ => rfl)) (pa_cons (pe_ix ix_tup (pv 1) pe_int (fun _ _ => rfl)) (pa_cons (pe_ix ix_tup (pv 2) pe_int (fun _ _ => rfl)) (pa_cons (pe_ix ix_tup (pv 2) pe_int (fun _ _ => rfl)) (pa_cons (pv 5) pa_nil))))))))))), ?_⟩
    have E0 := Ext.refl G0
    have hm0 : (Option.bind (m_settled_lists joint1.2.1 joint1.2.2.2.1 joint1.2.2.2.2) fun r1 =>
  Option.bind (catM r1.1 first1.2.2) fun z1 =>
  Option.bind (catM r1.2 second1.2.2) fun z2 =>
  Option.bind (m_matched z1 z2) fun r2 =>
  if (r2.isNone) then (some (none : (Option ((Wd × Int × Int) × (List Int) × (Wd × Int × Int) × (List Int) × (List (Bool × Int))))))
  else (Option.bind (r2) fun j1 =>
  some (some (first1.1, first1.2.1, second1.1, second1.2.1, j1)))) = some res := hm
    refine gS_Asg ?_
    refine gCall ?_
    refine gCons' ?_
    refine gOp ?_
    refine gV rfl ?_
    refine gC ?_
    refine q_p5_1 S0 h1 (fun v4 h4 => ?_)
    refine gCons' ?_
    refine gOp ?_
    refine gV rfl ?_
    refine gC ?_
    refine q_p5_3 S0 h1 (fun v5 h5 => ?_)
    refine gCons' ?_
    refine gOp ?_
    refine gV rfl ?_
    refine gC ?_
    refine q_p5_4 S0 h1 (fun v6 h6 => ?_)
    refine gNil' ?_
    obtain ⟨r1, hq1, hm1⟩ := bindS hm0
    refine ⟨G0, (O), v4, joint1.2.1, v5, joint1.2.2.2.1, v6, joint1.2.2.2.2, rfl, S0, h4, h5, h6, r1, hq1, fun v7 G1 H1 e1 S1 h7 => ?_⟩
    have h8 := R.up e1 h1
    have h9 := R.up e1 h2
    have h10 := R.up e1 h3
    have E1 := E0.trans e1
    refine q_gt2 S1 h7 (fun v8 v9 h11 h12 => ?_)
    refine gS_AsgN ?_
    refine gCall ?_
    refine gCons' ?_
    refine gOp ?_
    refine gV rfl ?_
    refine gOp ?_
    refine gV rfl ?_
    refine gC ?_
    refine q_p3_2 S1 h9 (fun v10 h13 => ?_)
    obtain ⟨z1, hq2, hm2⟩ := bindS hm1
    refine q_cat S1 (ls_M S1 h11) (ls_M S1 h13) hq2 (fun v11 G2 H2 e2 S2 h14 => ?_)
    have h15 := R.up e2 h8
    have h16 := R.up e2 h9
    have h17 := R.up e2 h10
    have h18 := R.up e2 h11
    have h19 := R.up e2 h12
    have E2 := E1.trans e2
    refine gCons' ?_
    refine gOp ?_
    refine gV rfl ?_
    refine gOp ?_
    refine gV rfl ?_
    refine gC ?_
    refine q_p3_2 S2 h17 (fun v12 h20 => ?_)
    obtain ⟨z2, hq3, hm3⟩ := bindS hm2
    refine q_cat S2 (ls_M S2 h19) (ls_M S2 h20) hq3 (fun v13 G3 H3 e3 S3 h21 => ?_)
    have h22 := R.up e3 h15
    have h23 := R.up e3 h16
    have h24 := R.up e3 h17
    have h25 := R.up e3 h18
    have h26 := R.up e3 h19
    have h27 := R.up e3 h14
    have E3 := E2.trans e3
    refine gNil' ?_
    obtain ⟨r2, hq4, hm4⟩ := bindS hm3
    refine ⟨G3, (O), v11, z1, v13, z2, rfl, S3, h27, h21, r2, hq4, fun v14 G4 H4 e4 S4 h28 => ?_⟩
    have h29 := R.up e4 h22
    have h30 := R.up e4 h23
    have h31 := R.up e4 h24
    have h32 := R.up e4 h25
    have h33 := R.up e4 h26
    have E4 := E3.trans e4
    refine gS_IfS ?_
    refine gTest ?_
    refine gOp ?_
    refine gV rfl ?_
    refine gC ?_
    refine q_isNon h28 ?_
    refine ⟨(r2.isNone), rfl, ?_⟩
    refine ite2 (fun c1 => ?_) (fun c1 => ?_)
    · skip
      have hm5 := (if_pos c1).symm.trans hm4
      refine gRet ?_
      refine gC ?_
      cases hm5
      exact q (V.str (Str.ofString "parted")) G4 H4 E4 S4 (rA_none : R.rel (rA (Str.ofString "parted") (rP5 K (rP3 K (rEn e_Wd) rInt rInt) (rT K rInt) (rP3 K (rEn e_Wd) rInt rInt) (rT K rInt) (rT K (rP2 K rBool rInt)))) G4 (V.str (Str.ofString "parted")) none)
    · skip
      have hm6 := (if_neg c1).symm.trans hm4
      refine gNext ?_
      refine gE ?_
      refine gRet ?_
      refine gTup' ?_
      refine gCons' ?_
      refine gOp ?_
      refine gV rfl ?_
      refine gC ?_
      refine q_p3_0 S4 h30 (fun v15 h34 => ?_)
      refine gCons' ?_
      refine gOp ?_
      refine gV rfl ?_
      refine gC ?_
      refine q_p3_1 S4 h30 (fun v16 h35 => ?_)
      refine gCons' ?_
      refine gOp ?_
      refine gV rfl ?_
      refine gC ?_
      refine q_p3_0 S4 h31 (fun v17 h36 => ?_)
      refine gCons' ?_
      refine gOp ?_
      refine gV rfl ?_
      refine gC ?_
      refine q_p3_1 S4 h31 (fun v18 h37 => ?_)
      refine gCons' ?_
      refine gV rfl ?_
      refine gNil' ?_
      obtain ⟨j1, hq5, hm7⟩ := bindS hm6
      have h38 := rO_get h28 hq5
      refine q_tup5 (K := K) S4 (show R.rel (rP3 K (rEn e_Wd) rInt rInt) G4 v15 first1.1 from h34) (show R.rel (rT K rInt) G4 v16 first1.2.1 from h35) (show R.rel (rP3 K (rEn e_Wd) rInt rInt) G4 v17 second1.1 from h36) (show R.rel (rT K rInt) G4 v18 second1.2.1 from h37) (show R.rel (rT K (rP2 K rBool rInt)) G4 v14 j1 from h38) (fun v19 G5 H5 e5 S5 h39 => ?_)
      have h40 := R.up e5 h29
      have h41 := R.up e5 h30
      have h42 := R.up e5 h31
      have h43 := R.up e5 h32
      have h44 := R.up e5 h33
      have h45 := R.up e5 h28
      have E5 := E4.trans e5
      cases hm7
      exact q v19 G5 H5 E5 S5 (rA_some (c := Str.ofString "parted") (show R.rel (rP5 K (rP3 K (rEn e_Wd) rInt rInt) (rT K rInt) (rP3 K (rEn e_Wd) rInt rInt) (rT K rInt) (rT K (rP2 K rBool rInt))) G5 v19 (first1.1, first1.2.1, second1.1, second1.2.1, j1) from h39))
end
end Mr

set_option Elab.async false
set_option linter.all false
set_option maxRecDepth 100000
set_option maxHeartbeats 4000000
set_option synthInstance.maxSize 4000
set_option synthInstance.maxHeartbeats 400000
namespace Mr
open PySem PySem.Spec PyProof.Rows L2
section
variable {P : Program} {w : World} {K : PySem.W.Frag} {mg : Str → Option Value} {base : Heap}
theorem ok_merged__1 (T : Tx K mg) : FnOk P w K mg base CX0 2 (He.fAd K ("merged", none)) T.fd_merged ["joint", "first", "second"] (sp_merged__1 K) := by
  have G_matched := ok_matched (P := P) (w := w) (base := base) T
  have G_settled_lists := ok_settled_lists (P := P) (w := w) (base := base) T
  obtain ⟨tk_PARTED, c_PARTED⟩ := T.c_PARTED
  refine T.F_merged.ok sc_merged (fun vs H Q E h => ?_) (fun cdv A outer s H0 vs Q E hr h => ?_)
  · obtain ⟨G, O, v1, joint1, v2, first1, v3, second1, rfl, _⟩ := h
    rfl
  · obtain ⟨G0, O, v1, joint1, v2, first1, v3, second1, rfl, S0, h1, h2, h3, res, hm, q⟩ := h
    refine ⟨_, PSs.nox (pss_cons (ps_asg (pe_call G_settled_lists (hr.mono (by decide)) (by rfl) T.g_settled_lists T.F_settled_lists.kp T.b_settled_lists .nil pass0 (pa_cons (pe_ix ix_tup (pv 0) pe_int (fun _ _ => rfl)) (pa_cons (pe_ix ix_tup (pv 0) pe_int (fun _ _ => rfl)) (pa_cons (pe_ix ix_tup (pv 0) pe_int (fun _ _ => rfl)) pa_nil)))) (pg_tup rfl (pgs_cons (pg_name (i := 3) sc_merged.nd rfl (.inl rfl)) (pgs_cons (pg_name (i := 4) sc_merged.nd rfl (.inl rfl)) pgs_nil))))
      (pss_cons (ps_set (i := 5) sc_merged.nd rfl (.inl rfl) (pe_call G_matched (hr.mono (by decide)) (by rfl) T.g_matched T.F_matched.kp T.b_matched .nil pass0 (pa_cons (pe_op op_cat (pv 3) (pe_ix ix_tup (pv 1) pe_int (fun _ _ => rfl))) (pa_cons (pe_op op_cat (pv 4) (pe_ix ix_tup (pv 2) pe_int (fun _ _ => rfl))) pa_nil))))
      (pss_cons (ps_if (pt_cmpR op_isNon (pv 5) pe_non (nomark _)) (pss_one (ps_ret (pe_glob (v := (V.str (Str.ofString "parted"))) (by rfl) c_PARTED ⟨_, rfl⟩))) pss_nil)
      (pss_one (ps_ret (pe_tup (pa_cons (pe_ix ix_tup (pv 1) pe_int (fun _ _ => rfl)) (pa_cons (pe_ix ix_tup (pv 1) pe_int (fun _ _ => rfl)) (pa_cons (pe_ix ix_tup (pv 2) pe_int (fun _ _ => rfl)) (pa_cons (pe_ix ix_tup (pv 2) pe_int (fun _ _ => rfl)) (pa_cons (pv 5) pa_nil))))))))))), ?_⟩
    have E0 := Ext.refl G0
    have hm0 : (Option.bind (m_settled_lists joint1.2.1 joint1.2.2.2.1 joint1.2.2.2.2) fun r1 =>
  Option.bind (catM r1.1 first1.2.2) fun z1 =>
  Option.bind (catM r1.2 second1.2.2) fun z2 =>
  Option.bind (m_matched z1 z2) fun r2 =>
  if (r2.isNone) then (some (none : (Option (Int × (List Int) × Int × (List Int) × (List (Bool × Int))))))
  else (Option.bind (r2) fun j1 =>
  some (some (first1.1, first1.2.1, second1.1, second1.2.1, j1)))) = some res := hm
    refine gS_Asg ?_
    refine gCall ?_
    refine gCons' ?_
    refine gOp ?_
    refine gV rfl ?_
    refine gC ?_
    refine q_p5_1 S0 h1 (fun v4 h4 => ?_)
    refine gCons' ?_
    refine gOp ?_
    refine gV rfl ?_
    refine gC ?_
    refine q_p5_3 S0 h1 (fun v5 h5 => ?_)
    refine gCons' ?_
    refine gOp ?_
    refine gV rfl ?_
    refine gC ?_
    refine q_p5_4 S0 h1 (fun v6 h6 => ?_)
    refine gNil' ?_
    obtain ⟨r1, hq1, hm1⟩ := bindS hm0
    refine ⟨G0, (O), v4, joint1.2.1, v5, joint1.2.2.2.1, v6, joint1.2.2.2.2, rfl, S0, h4, h5, h6, r1, hq1, fun v7 G1 H1 e1 S1 h7 => ?_⟩
    have h8 := R.up e1 h1
    have h9 := R.up e1 h2
    have h10 := R.up e1 h3
    have E1 := E0.trans e1
    refine q_gt2 S1 h7 (fun v8 v9 h11 h12 => ?_)
    refine gS_AsgN ?_
    refine gCall ?_
    refine gCons' ?_
    refine gOp ?_
    refine gV rfl ?_
    refine gOp ?_
    refine gV rfl ?_
    refine gC ?_
    refine q_p3_2 S1 h9 (fun v10 h13 => ?_)
    obtain ⟨z1, hq2, hm2⟩ := bindS hm1
    refine q_cat S1 (ls_M S1 h11) (ls_M S1 h13) hq2 (fun v11 G2 H2 e2 S2 h14 => ?_)
    have h15 := R.up e2 h8
    have h16 := R.up e2 h9
    have h17 := R.up e2 h10
    have h18 := R.up e2 h11
    have h19 := R.up e2 h12
    have E2 := E1.trans e2
    refine gCons' ?_
    refine gOp ?_
    refine gV rfl ?_
    refine gOp ?_
    refine gV rfl ?_
    refine gC ?_
    refine q_p3_2 S2 h17 (fun v12 h20 => ?_)
    obtain ⟨z2, hq3, hm3⟩ := bindS hm2
    refine q_cat S2 (ls_M S2 h19) (ls_M S2 h20) hq3 (fun v13 G3 H3 e3 S3 h21 => ?_)
    have h22 := R.up e3 h15
    have h23 := R.up e3 h16
    have h24 := R.up e3 h17
    have h25 := R.up e3 h18
    have h26 := R.up e3 h19
    have h27 := R.up e3 h14
    have E3 := E2.trans e3
    refine gNil' ?_
    obtain ⟨r2, hq4, hm4⟩ := bindS hm3
    refine ⟨G3, (O), v11, z1, v13, z2, rfl, S3, h27, h21, r2, hq4, fun v14 G4 H4 e4 S4 h28 => ?_⟩
    have h29 := R.up e4 h22
    have h30 := R.up e4 h23
    have h31 := R.up e4 h24
    have h32 := R.up e4 h25
    have h33 := R.up e4 h26
    have E4 := E3.trans e4
    refine gS_IfS ?_
    refine gTest ?_
    refine gOp ?_
    refine gV rfl ?_
    refine gC ?_
    refine q_isNon h28 ?_
    refine ⟨(r2.isNone), rfl, ?_⟩
    refine ite2 (fun c1 => ?_) (fun c1 => ?_)
    · skip
      have hm5 := (if_pos c1).symm.trans hm4
      refine gRet ?_
      refine gC ?_
      cases hm5
      exact q (V.str (Str.ofString "parted")) G4 H4 E4 S4 (rA_none : R.rel (rA (Str.ofString "parted") (rP5 K rInt (rT K rInt) rInt (rT K rInt) (rT K (rP2 K rBool rInt)))) G4 (V.str (Str.ofString "parted")) none)
    · skip
      have hm6 := (if_neg c1).symm.trans hm4
      refine gNext ?_
      refine gE ?_
      refine gRet ?_
      refine gTup' ?_
      refine gCons' ?_
      refine gOp ?_
      refine gV rfl ?_
      refine gC ?_
      refine q_p3_0 S4 h30 (fun v15 h34 => ?_)
      obtain rfl := (show v15 = (V.int first1.1) from h34)
      refine gCons' ?_
      refine gOp ?_
      refine gV rfl ?_
      refine gC ?_
      refine q_p3_1 S4 h30 (fun v16 h35 => ?_)
      refine gCons' ?_
      refine gOp ?_
      refine gV rfl ?_
      refine gC ?_
      refine q_p3_0 S4 h31 (fun v17 h36 => ?_)
      obtain rfl := (show v17 = (V.int second1.1) from h36)
      refine gCons' ?_
      refine gOp ?_
      refine gV rfl ?_
      refine gC ?_
      refine q_p3_1 S4 h31 (fun v18 h37 => ?_)
      refine gCons' ?_
      refine gV rfl ?_
      refine gNil' ?_
      obtain ⟨j1, hq5, hm7⟩ := bindS hm6
      have h38 := rO_get h28 hq5
      refine q_tup5 (K := K) S4 (show R.rel rInt G4 (V.int first1.1) first1.1 from rfl) (show R.rel (rT K rInt) G4 v16 first1.2.1 from h35) (show R.rel rInt G4 (V.int second1.1) second1.1 from rfl) (show R.rel (rT K rInt) G4 v18 second1.2.1 from h37) (show R.rel (rT K (rP2 K rBool rInt)) G4 v14 j1 from h38) (fun v19 G5 H5 e5 S5 h39 => ?_)
      have h40 := R.up e5 h29
      have h41 := R.up e5 h30
      have h42 := R.up e5 h31
      have h43 := R.up e5 h32
      have h44 := R.up e5 h33
      have h45 := R.up e5 h28
      have E5 := E4.trans e5
      cases hm7
      exact q v19 G5 H5 E5 S5 (rA_some (c := Str.ofString "parted") (show R.rel (rP5 K rInt (rT K rInt) rInt (rT K rInt) (rT K (rP2 K rBool rInt))) G5 v19 (first1.1, first1.2.1, second1.1, second1.2.1, j1) from h39))
end
end Mr

set_option Elab.async false
set_option linter.all false
set_option maxRecDepth 100000
set_option maxHeartbeats 4000000
set_option synthInstance.maxSize 4000
set_option synthInstance.maxHeartbeats 400000
namespace Mr
open PySem PySem.Spec PyProof.Rows L2
section
variable {P : Program} {w : World} {K : PySem.W.Frag} {mg : Str → Option Value} {base : Heap}
theorem ok_merged__2 (T : Tx K mg) : FnOk P w K mg base CX0 2 (He.fAd K ("merged", none)) T.fd_merged ["joint", "first", "second"] (sp_merged__2 K) := by
  have G_matched := ok_matched (P := P) (w := w) (base := base) T
  have G_settled_lists := ok_settled_lists (P := P) (w := w) (base := base) T
  obtain ⟨tk_PARTED, c_PARTED⟩ := T.c_PARTED
  refine T.F_merged.ok sc_merged (fun vs H Q E h => ?_) (fun cdv A outer s H0 vs Q E hr h => ?_)
  · obtain ⟨G, O, v1, joint1, v2, first1, v3, second1, rfl, _⟩ := h
    rfl
  · obtain ⟨G0, O, v1, joint1, v2, first1, v3, second1, rfl, S0, h1, h2, h3, res, hm, q⟩ := h
    refine ⟨_, PSs.nox (pss_cons (ps_asg (pe_call G_settled_lists (hr.mono (by decide)) (by rfl) T.g_settled_lists T.F_settled_lists.kp T.b_settled_lists .nil pass0 (pa_cons (pe_ix ix_tup (pv 0) pe_int (fun _ _ => rfl)) (pa_cons (pe_ix ix_tup (pv 0) pe_int (fun _ _ => rfl)) (pa_cons (pe_ix ix_tup (pv 0) pe_int (fun _ _ => rfl)) pa_nil)))) (pg_tup rfl (pgs_cons (pg_name (i := 3) sc_merged.nd rfl (.inl rfl)) (pgs_cons (pg_name (i := 4) sc_merged.nd rfl (.inl rfl)) pgs_nil))))
      (pss_cons (ps_set (i := 5) sc_merged.nd rfl (.inl rfl) (pe_call G_matched (hr.mono (by decide)) (by rfl) T.g_matched T.F_matched.kp T.b_matched .nil pass0 (pa_cons (pe_op op_cat (pv 3) (pe_ix ix_tup (pv 1) pe_int (fun _ _ => rfl))) (pa_cons (pe_op op_cat (pv 4) (pe_ix ix_tup (pv 2) pe_int (fun _ _ => rfl))) pa_nil))))
      (pss_cons (ps_if (pt_cmpR op_isNon (pv 5) pe_non (nomark _)) (pss_one (ps_ret (pe_glob (v := (V.str (Str.ofString "parted"))) (by rfl) c_PARTED ⟨_, rfl⟩))) pss_nil)
      (pss_one (ps_ret (pe_tup (pa_cons (pe_ix ix_tup (pv 1) pe_int (fun _ _ => rfl)) (pa_cons (pe_ix ix_tup (pv 1) pe_int (fun _ _ => rfl)) (pa_cons (pe_ix ix_tup (pv 2) pe_int (fun _ _ => rfl)) (pa_cons (pe_ix ix_tup (pv 2) pe_int (fun _ _ => rfl)) (pa_cons (pv 5) pa_nil))))))))))), ?_⟩
    have E0 := Ext.refl G0
    have hm0 : (Option.bind (m_settled_lists joint1.2.1 joint1.2.2.2.1 joint1.2.2.2.2) fun r1 =>
  Option.bind (catM r1.1 first1.2.2) fun z1 =>
  Option.bind (catM r1.2 second1.2.2) fun z2 =>
  Option.bind (m_matched z1 z2) fun r2 =>
  if (r2.isNone) then (some (none : (Option ((Wd × Int × Int) × (List Int) × (Wd × Int × Int) × (List Int) × (List (Bool × Int))))))
  else (Option.bind (r2) fun j1 =>
  some (some (first1.1, first1.2.1, second1.1, second1.2.1, j1)))) = some res := hm
    refine gS_Asg ?_
    refine gCall ?_
    refine gCons' ?_
    refine gOp ?_
    refine gV rfl ?_
    refine gC ?_
    refine q_p5_1 S0 h1 (fun v4 h4 => ?_)
    refine gCons' ?_
    refine gOp ?_
    refine gV rfl ?_
    refine gC ?_
    refine q_p5_3 S0 h1 (fun v5 h5 => ?_)
    refine gCons' ?_
    refine gOp ?_
    refine gV rfl ?_
    refine gC ?_
    refine q_p5_4 S0 h1 (fun v6 h6 => ?_)
    refine gNil' ?_
    obtain ⟨r1, hq1, hm1⟩ := bindS hm0
    refine ⟨G0, (O), v4, joint1.2.1, v5, joint1.2.2.2.1, v6, joint1.2.2.2.2, rfl, S0, h4, h5, h6, r1, hq1, fun v7 G1 H1 e1 S1 h7 => ?_⟩
    have h8 := R.up e1 h1
    have h9 := R.up e1 h2
    have h10 := R.up e1 h3
    have E1 := E0.trans e1
    refine q_gt2 S1 h7 (fun v8 v9 h11 h12 => ?_)
    refine gS_AsgN ?_
    refine gCall ?_
    refine gCons' ?_
    refine gOp ?_
    refine gV rfl ?_
    refine gOp ?_
    refine gV rfl ?_
    refine gC ?_
    refine q_p3_2 S1 h9 (fun v10 h13 => ?_)
    obtain ⟨z1, hq2, hm2⟩ := bindS hm1
    refine q_cat S1 (ls_M S1 h11) (ls_M S1 h13) hq2 (fun v11 G2 H2 e2 S2 h14 => ?_)
    have h15 := R.up e2 h8
    have h16 := R.up e2 h9
    have h17 := R.up e2 h10
    have h18 := R.up e2 h11
    have h19 := R.up e2 h12
    have E2 := E1.trans e2
    refine gCons' ?_
    refine gOp ?_
    refine gV rfl ?_
    refine gOp ?_
    refine gV rfl ?_
    refine gC ?_
    refine q_p3_2 S2 h17 (fun v12 h20 => ?_)
    obtain ⟨z2, hq3, hm3⟩ := bindS hm2
    refine q_cat S2 (ls_M S2 h19) (ls_M S2 h20) hq3 (fun v13 G3 H3 e3 S3 h21 => ?_)
    have h22 := R.up e3 h15
    have h23 := R.up e3 h16
    have h24 := R.up e3 h17
    have h25 := R.up e3 h18
    have h26 := R.up e3 h19
    have h27 := R.up e3 h14
    have E3 := E2.trans e3
    refine gNil' ?_
    obtain ⟨r2, hq4, hm4⟩ := bindS hm3
    refine ⟨G3, (O), v11, z1, v13, z2, rfl, S3, h27, h21, r2, hq4, fun v14 G4 H4 e4 S4 h28 => ?_⟩
    have h29 := R.up e4 h22
    have h30 := R.up e4 h23
    have h31 := R.up e4 h24
    have h32 := R.up e4 h25
    have h33 := R.up e4 h26
    have E4 := E3.trans e4
    refine gS_IfS ?_
    refine gTest ?_
    refine gOp ?_
    refine gV rfl ?_
    refine gC ?_
    refine q_isNon h28 ?_
    refine ⟨(r2.isNone), rfl, ?_⟩
    refine ite2 (fun c1 => ?_) (fun c1 => ?_)
    · skip
      have hm5 := (if_pos c1).symm.trans hm4
      refine gRet ?_
      refine gC ?_
      cases hm5
      exact q (V.str (Str.ofString "parted")) G4 H4 E4 S4 (rA_none : R.rel (rA (Str.ofString "parted") (rP5 K (rP3 K (rEn e_Wd) rInt rInt) (rT K rInt) (rP3 K (rEn e_Wd) rInt rInt) (rT K rInt) (rT K (rP2 K rBool rInt)))) G4 (V.str (Str.ofString "parted")) none)
    · skip
      have hm6 := (if_neg c1).symm.trans hm4
      refine gNext ?_
      refine gE ?_
      refine gRet ?_
      refine gTup' ?_
      refine gCons' ?_
      refine gOp ?_
      refine gV rfl ?_
      refine gC ?_
      refine q_p3_0 S4 h30 (fun v15 h34 => ?_)
      refine gCons' ?_
      refine gOp ?_
      refine gV rfl ?_
      refine gC ?_
      refine q_p3_1 S4 h30 (fun v16 h35 => ?_)
      refine gCons' ?_
      refine gOp ?_
      refine gV rfl ?_
      refine gC ?_
      refine q_p3_0 S4 h31 (fun v17 h36 => ?_)
      refine gCons' ?_
      refine gOp ?_
      refine gV rfl ?_
      refine gC ?_
      refine q_p3_1 S4 h31 (fun v18 h37 => ?_)
      refine gCons' ?_
      refine gV rfl ?_
      refine gNil' ?_
      obtain ⟨j1, hq5, hm7⟩ := bindS hm6
      have h38 := rO_get h28 hq5
      refine q_tup5 (K := K) S4 (show R.rel (rP3 K (rEn e_Wd) rInt rInt) G4 v15 first1.1 from h34) (show R.rel (rT K rInt) G4 v16 first1.2.1 from h35) (show R.rel (rP3 K (rEn e_Wd) rInt rInt) G4 v17 second1.1 from h36) (show R.rel (rT K rInt) G4 v18 second1.2.1 from h37) (show R.rel (rT K (rP2 K rBool rInt)) G4 v14 j1 from h38) (fun v19 G5 H5 e5 S5 h39 => ?_)
      have h40 := R.up e5 h29
      have h41 := R.up e5 h30
      have h42 := R.up e5 h31
      have h43 := R.up e5 h32
      have h44 := R.up e5 h33
      have h45 := R.up e5 h28
      have E5 := E4.trans e5
      cases hm7
      exact q v19 G5 H5 E5 S5 (rA_some (c := Str.ofString "parted") (show R.rel (rP5 K (rP3 K (rEn e_Wd) rInt rInt) (rT K rInt) (rP3 K (rEn e_Wd) rInt rInt) (rT K rInt) (rT K (rP2 K rBool rInt))) G5 v19 (first1.1, first1.2.1, second1.1, second1.2.1, j1) from h39))
end
end Mr

set_option Elab.async false
set_option linter.all false
set_option maxRecDepth 100000
set_option maxHeartbeats 4000000
set_option synthInstance.maxSize 4000
set_option synthInstance.maxHeartbeats 400000
namespace Mr
open PySem PySem.Spec PyProof.Rows L2
section
variable {P : Program} {w : World} {K : PySem.W.Frag} {mg : Str → Option Value} {base : Heap}
theorem sc_joint_page : FnScope ["joint", "first", "second", "one", "two"] ["joint", "first", "second"] (defScope s_joint_page) := ⟨rfl, rfl, rfl, by decide +kernel, rfl, by decide +kernel, by decide +kernel⟩
theorem ok_joint_page (T : Tx K mg) : FnOk P w K mg base CX0 4 (He.fAd K ("joint_page", none)) T.fd_joint_page ["joint", "first", "second"] (sp_joint_page K) := by
  have G_fresh_side := ok_fresh_side (P := P) (w := w) (base := base) T
  have G_merged := ok_merged (P := P) (w := w) (base := base) T
  obtain ⟨tk_PARTED, c_PARTED⟩ := T.c_PARTED
  refine T.F_joint_page.ok sc_joint_page (fun vs H Q E h => ?_) (fun cdv A outer s H0 vs Q E hr h => ?_)
  · obtain ⟨G, O, v1, joint1, first1, second1, rfl, _⟩ := h
    rfl
  · obtain ⟨G0, O, v1, joint1, first1, second1, rfl, S0, h1, res, hm, q⟩ := h
    refine ⟨_, PSs.nox (pss_cons (ps_if (pt_cmpR (op_eqD hr.units) (pv 0) (pe_glob (v := (V.str (Str.ofString "parted"))) (by rfl) c_PARTED ⟨_, rfl⟩) (nomark _)) (pss_one (ps_ret (pe_glob (v := (V.str (Str.ofString "parted"))) (by rfl) c_PARTED ⟨_, rfl⟩))) pss_nil)
      (pss_cons (ps_set (i := 3) sc_joint_page.nd rfl (.inl rfl) (pe_tup (pa_cons (pe_ix ix_tup (pv 0) pe_int (fun _ _ => rfl)) (pa_cons (pe_ix ix_tup (pv 0) pe_int (fun _ _ => rfl)) (pa_cons (pe_lst pa_nil) pa_nil)))))
      (pss_cons (ps_set (i := 4) sc_joint_page.nd rfl (.inl rfl) (pe_tup (pa_cons (pe_ix ix_tup (pv 0) pe_int (fun _ _ => rfl)) (pa_cons (pe_ix ix_tup (pv 0) pe_int (fun _ _ => rfl)) (pa_cons (pe_lst pa_nil) pa_nil)))))
      (pss_cons (ps_cut (ps_if (pt_val (pv 1)) (pss_one (ps_set (i := 3) sc_joint_page.nd rfl (.inl rfl) (pe_call G_fresh_side (hr.mono (by decide)) (by rfl) T.g_fresh_side T.F_fresh_side.kp T.b_fresh_side .nil pass0 (pa_cons (pe_ix ix_tup (pv 0) pe_int (fun _ _ => rfl)) (pa_cons (pe_ix ix_tup (pv 0) pe_int (fun _ _ => rfl)) pa_nil))))) pss_nil))
      (pss_cons (ps_cut (ps_if (pt_val (pv 2)) (pss_one (ps_set (i := 4) sc_joint_page.nd rfl (.inl rfl) (pe_call G_fresh_side (hr.mono (by decide)) (by rfl) T.g_fresh_side T.F_fresh_side.kp T.b_fresh_side .nil pass0 (pa_cons (pe_ix ix_tup (pv 0) pe_int (fun _ _ => rfl)) (pa_cons (pe_ix ix_tup (pv 0) pe_int (fun _ _ => rfl)) pa_nil))))) pss_nil))
      (pss_one (ps_ret (pe_call G_merged (hr.mono (by decide)) (by rfl) T.g_merged T.F_merged.kp T.b_merged .nil pass0 (pa_cons (pv 0) (pa_cons (pv 3) (pa_cons (pv 4) pa_nil))))))))))), ?_⟩
    have E0 := Ext.refl G0
    have hm0 : (if (decide (joint1 = (none : (Option ((Wd × Int × Int) × (List Int) × (Wd × Int × Int) × (List Int) × (List (Bool × Int))))))) then (some (none : (Option ((Wd × Int × Int) × (List Int) × (Wd × Int × Int) × (List Int) × (List (Bool × Int))))))
  else (Option.bind (joint1) fun j1 =>
  Option.bind (joint1) fun j2 =>
  Option.bind (joint1) fun j3 =>
  Option.bind (joint1) fun j4 =>
  Option.bind (if first1 then (Option.bind (joint1) fun j7 =>
  Option.bind (joint1) fun j8 =>
  Option.bind (m_fresh_side j7.1 j8.2.1) fun r2 =>
  some r2)
  else (some (j1.1, j2.2.1, ([] : List (Bool × Int))))) fun one1 =>
  Option.bind (if second1 then (Option.bind (joint1) fun j11 =>
  Option.bind (joint1) fun j12 =>
  Option.bind (m_fresh_side j11.2.2.1 j12.2.2.2.1) fun r4 =>
  some r4)
  else (some (j3.2.2.1, j4.2.2.2.1, ([] : List (Bool × Int))))) fun two1 =>
  Option.bind (joint1) fun j13 =>
  Option.bind (m_merged j13 one1 two1) fun r5 =>
  some r5)) = some res := hm
    refine gS_IfS ?_
    refine gTest ?_
    refine gOp ?_
    refine gV rfl ?_
    refine gC ?_
    refine q_eqD (dA (Str.ofString "parted") (by decide +kernel) (dP5 (dP3 (dEn (K := K) e_Wd e_Wd_inj e_Wd_ok) (dInt (K := K)) (dInt (K := K))) (dT (dInt (K := K))) (dP3 (dEn (K := K) e_Wd e_Wd_inj e_Wd_ok) (dInt (K := K)) (dInt (K := K))) (dT (dInt (K := K))) (dT (dP2 (dBool (K := K)) (dInt (K := K))))) (fun _ => rfl)) (by show 18 ≤ 64; decide) (R.up S0.ext h1) (R.up S0.ext (rA_none : R.rel (rA (Str.ofString "parted") (rP5 K (rP3 K (rEn e_Wd) rInt rInt) (rT K rInt) (rP3 K (rEn e_Wd) rInt rInt) (rT K rInt) (rT K (rP2 K rBool rInt)))) G0 (V.str (Str.ofString "parted")) none)) ((okA (okP5 (okP3 okEn okI okI) (okT okI) (okP3 okEn okI okI) (okT okI) (okT (okP2 okB okI)))) _) ((okA (okP5 (okP3 okEn okI okI) (okT okI) (okP3 okEn okI okI) (okT okI) (okT (okP2 okB okI)))) _) ?_
    refine ⟨(decide (joint1 = (none : (Option ((Wd × Int × Int) × (List Int) × (Wd × Int × Int) × (List Int) × (List (Bool × Int))))))), rfl, ?_⟩
    refine ite2 (fun c1 => ?_) (fun c1 => ?_)
    · skip
      have hm1 := (if_pos c1).symm.trans hm0
      refine gRet ?_
      refine gC ?_
      cases hm1
      exact q (V.str (Str.ofString "parted")) G0 H0 E0 S0 (rA_none : R.rel (rA (Str.ofString "parted") (rP5 K (rP3 K (rEn e_Wd) rInt rInt) (rT K rInt) (rP3 K (rEn e_Wd) rInt rInt) (rT K rInt) (rT K (rP2 K rBool rInt)))) G0 (V.str (Str.ofString "parted")) none)
    · skip
      have hm2 := (if_neg c1).symm.trans hm0
      refine gNext ?_
      refine gE ?_
      refine gS_AsgN ?_
      refine gTup' ?_
      refine gCons' ?_
      refine gOp ?_
      refine gV rfl ?_
      obtain ⟨j1, hq1, hm3⟩ := bindS hm2
      have h2 := rA_get h1 hq1
      refine gC ?_
      refine q_p5_0 S0 h2 (fun v2 h3 => ?_)
      refine gCons' ?_
      refine gOp ?_
      refine gV rfl ?_
      obtain ⟨j2, hq2, hm4⟩ := bindS hm3
      have h4 := rA_get h1 hq2
      refine gC ?_
      refine q_p5_1 S0 h4 (fun v3 h5 => ?_)
      refine gCons' ?_
      refine gLst ?_
      refine gNil' ?_
      have h6 : Al (rP2 K rBool rInt) G0 [] [] := True.intro
      refine q_lst S0 h6 (by show 0 ≤ 100000; decide) (fun a1 H1 w1 S1 h7 => ?_)
      refine gNil' ?_
      obtain ⟨G1, e1, S2, h8⟩ := frz_M S1 h7
      have h9 := R.up e1 h1
      have h10 := R.up e1 h3
      have h11 := R.up e1 h5
      have E1 := E0.trans e1
      refine q_tup3 (K := K) S2 (show R.rel (rP3 K (rEn e_Wd) rInt rInt) G1 v2 j1.1 from h10) (show R.rel (rT K rInt) G1 v3 j2.2.1 from h11) (show R.rel (rM (rP2 K rBool rInt)) G1 (V.ref a1) ([] : List (Bool × Int)) from h8) (fun v4 G2 H2 e2 S3 h12 => ?_)
      have h13 := R.up e2 h9
      have E2 := E1.trans e2
      refine gS_AsgN ?_
      refine gTup' ?_
      refine gCons' ?_
      refine gOp ?_
      refine gV rfl ?_
      obtain ⟨j3, hq3, hm5⟩ := bindS hm4
      have h14 := rA_get h13 hq3
      refine gC ?_
      refine q_p5_2 S3 h14 (fun v5 h15 => ?_)
      refine gCons' ?_
      refine gOp ?_
      refine gV rfl ?_
      obtain ⟨j4, hq4, hm6⟩ := bindS hm5
      have h16 := rA_get h13 hq4
      refine gC ?_
      refine q_p5_3 S3 h16 (fun v6 h17 => ?_)
      refine gCons' ?_
      refine gLst ?_
      refine gNil' ?_
      have h18 : Al (rP2 K rBool rInt) G2 [] [] := True.intro
      refine q_lst S3 h18 (by show 0 ≤ 100000; decide) (fun a2 H3 w2 S4 h19 => ?_)
      refine gNil' ?_
      obtain ⟨G3, e3, S5, h20⟩ := frz_M S4 h19
      have h21 := R.up e3 h13
      have h22 := R.up e3 h12
      have h23 := R.up e3 h15
      have h24 := R.up e3 h17
      have E3 := E2.trans e3
      refine q_tup3 (K := K) S5 (show R.rel (rP3 K (rEn e_Wd) rInt rInt) G3 v5 j3.2.2.1 from h23) (show R.rel (rT K rInt) G3 v6 j4.2.2.2.1 from h24) (show R.rel (rM (rP2 K rBool rInt)) G3 (V.ref a2) ([] : List (Bool × Int)) from h20) (fun v7 G4 H4 e4 S6 h25 => ?_)
      have h26 := R.up e4 h21
      have h27 := R.up e4 h22
      have E4 := E3.trans e4
      obtain ⟨one1, hq8, hm10⟩ := bindS hm6
      refine gS_CS (fun (σ : L2.St) (H : Hp) => ∃ (G : Hp) (v11 : V), Ext G4 G ∧ Sub G (O) H ∧ σ = [some v1, some (V.bl first1), some (V.bl second1), some v11, some v7] ∧ R.rel (rP3 K (rP3 K (rEn e_Wd) rInt rInt) (rT K rInt) (rM (rP2 K rBool rInt))) G v11 one1) ?_ ?_
      · skip
        refine gIfS ?_
        refine gB ?_
        refine gV rfl ?_
        refine ⟨first1, rfl, ?_⟩
        refine ite2 (fun c2 => ?_) (fun c2 => ?_)
        · skip
          have hm11 := (if_pos c2).symm.trans hq8
          refine gAsgN ?_
          refine gCall ?_
          refine gCons' ?_
          refine gOp ?_
          refine gV rfl ?_
          obtain ⟨j7, hq9, hm12⟩ := bindS hm11
          have h36 := rA_get h26 hq9
          refine gC ?_
          refine q_p5_0 S6 h36 (fun v12 h37 => ?_)
          refine gCons' ?_
          refine gOp ?_
          refine gV rfl ?_
          obtain ⟨j8, hq10, hm13⟩ := bindS hm12
          have h38 := rA_get h26 hq10
          refine gC ?_
          refine q_p5_1 S6 h38 (fun v13 h39 => ?_)
          refine gNil' ?_
          obtain ⟨r2, hq11, hm14⟩ := bindS hm13
          refine ⟨G4, (O), v12, j7.1, v13, j8.2.1, rfl, S6, h37, h39, r2, hq11, fun v14 G6 H6 e6 S8 h40 => ?_⟩
          have h41 := R.up e6 h26
          have h42 := R.up e6 h27
          have h43 := R.up e6 h25
          have E6 := E4.trans e6
          cases hm14
          exact ⟨G6, v14, e6, S8, rfl, h40⟩
        · skip
          have hm15 := (if_neg c2).symm.trans hq8
          refine gNext ?_
          cases hm15
          exact ⟨G4, v4, (Ext.refl _), S6, rfl, h27⟩
      · intro σ1 H7 hJ1
        obtain ⟨G7, v15, e7, S9, rfl, h44⟩ := hJ1
        have h45 := R.up e7 h26
        have h46 := R.up e7 h25
        have E7 := E4.trans e7
        obtain ⟨two1, hq15, hm19⟩ := bindS hm10
        refine gS_CS (fun (σ : L2.St) (H : Hp) => ∃ (G : Hp) (v19 : V), Ext G7 G ∧ Sub G (O) H ∧ σ = [some v1, some (V.bl first1), some (V.bl second1), some v15, some v19] ∧ R.rel (rP3 K (rP3 K (rEn e_Wd) rInt rInt) (rT K rInt) (rM (rP2 K rBool rInt))) G v19 two1) ?_ ?_
        · skip
          refine gIfS ?_
          refine gB ?_
          refine gV rfl ?_
          refine ⟨second1, rfl, ?_⟩
          refine ite2 (fun c3 => ?_) (fun c3 => ?_)
          · skip
            have hm20 := (if_pos c3).symm.trans hq15
            refine gAsgN ?_
            refine gCall ?_
            refine gCons' ?_
            refine gOp ?_
            refine gV rfl ?_
            obtain ⟨j11, hq16, hm21⟩ := bindS hm20
            have h55 := rA_get h45 hq16
            refine gC ?_
            refine q_p5_2 S9 h55 (fun v20 h56 => ?_)
            refine gCons' ?_
            refine gOp ?_
            refine gV rfl ?_
            obtain ⟨j12, hq17, hm22⟩ := bindS hm21
            have h57 := rA_get h45 hq17
            refine gC ?_
            refine q_p5_3 S9 h57 (fun v21 h58 => ?_)
            refine gNil' ?_
            obtain ⟨r4, hq18, hm23⟩ := bindS hm22
            refine ⟨G7, (O), v20, j11.2.2.1, v21, j12.2.2.2.1, rfl, S9, h56, h58, r4, hq18, fun v22 G9 H9 e9 S11 h59 => ?_⟩
            have h60 := R.up e9 h45
            have h61 := R.up e9 h44
            have h62 := R.up e9 h46
            have E9 := E7.trans e9
            cases hm23
            exact ⟨G9, v22, e9, S11, rfl, h59⟩
          · skip
            have hm24 := (if_neg c3).symm.trans hq15
            refine gNext ?_
            cases hm24
            exact ⟨G7, v7, (Ext.refl _), S9, rfl, h46⟩
        · intro σ2 H10 hJ2
          obtain ⟨G10, v23, e10, S12, rfl, h63⟩ := hJ2
          have h64 := R.up e10 h45
          have h65 := R.up e10 h44
          have E10 := E7.trans e10
          refine gRet ?_
          refine gCall ?_
          refine gCons' ?_
          refine gV rfl ?_
          refine gCons' ?_
          refine gV rfl ?_
          refine gCons' ?_
          refine gV rfl ?_
          refine gNil' ?_
          obtain ⟨j13, hq19, hm25⟩ := bindS hm19
          have h66 := rA_get h64 hq19
          obtain ⟨r5, hq20, hm26⟩ := bindS hm25
          refine ⟨G10, (O), v1, j13, v15, one1, v23, two1, rfl, S12, h66, h65, h63, r5, hq20, fun v24 G11 H11 e11 S13 h67 => ?_⟩
          have h68 := R.up e11 h64
          have h69 := R.up e11 h65
          have h70 := R.up e11 h63
          have E11 := E10.trans e11
          cases hm26
          exact q v24 G11 H11 E11 S13 h67
end
end Mr

set_option Elab.async false
set_option linter.all false
set_option maxRecDepth 100000
set_option maxHeartbeats 4000000
set_option synthInstance.maxSize 4000
set_option synthInstance.maxHeartbeats 400000
namespace Mr
open PySem PySem.Spec PyProof.Rows L2
section
variable {P : Program} {w : World} {K : PySem.W.Frag} {mg : Str → Option Value} {base : Heap}
theorem sc_joint_pages_of : FnScope ["joint", "first", "second"] ["joint", "first", "second"] (defScope s_joint_pages_of) := ⟨rfl, rfl, rfl, by decide +kernel, rfl, by decide +kernel, by decide +kernel⟩
theorem ok_joint_pages_of (T : Tx K mg) : FnOk P w K mg base CX0 5 (He.fAd K ("joint_pages_of", none)) T.fd_joint_pages_of ["joint", "first", "second"] (sp_joint_pages_of K) := by
  have G_joint_page := ok_joint_page (P := P) (w := w) (base := base) T
  refine T.F_joint_pages_of.ok sc_joint_pages_of (fun vs H Q E h => ?_) (fun cdv A outer s H0 vs Q E hr h => ?_)
  · obtain ⟨G, O, v1, joint1, v2, first1, v3, second1, rfl, _⟩ := h
    rfl
  · obtain ⟨G0, O, v1, joint1, v2, first1, v3, second1, rfl, S0, h1, h2, h3, res, hm, q⟩ := h
    refine ⟨_, PSs.nox (pss_one (ps_ret (pe_call G_joint_page (hr.mono (by decide)) (by rfl) T.g_joint_page T.F_joint_page.kp T.b_joint_page .nil pass0 (pa_cons (pv 0) (pa_cons (pe_cut (pe_and (pe_ix ix_tup (pv 1) pe_int (fun _ _ => rfl)) (pe_one (pe_not (pe_ix ix_tup (pv 1) pe_int (fun _ _ => rfl)))))) (pa_cons (pe_cut (pe_and (pe_ix ix_tup (pv 2) pe_int (fun _ _ => rfl)) (pe_one (pe_not (pe_ix ix_tup (pv 2) pe_int (fun _ _ => rfl)))))) pa_nil)))))), ?_⟩
    have E0 := Ext.refl G0
    have hm0 : (Option.bind (m_joint_page joint1 (first1.2.2.2.2.1 && (!first1.2.2.2.2.2)) (second1.2.2.2.2.1 && (!second1.2.2.2.2.2))) fun r1 =>
  some r1) = some res := hm
    refine gRet ?_
    refine gCall ?_
    refine gCons' ?_
    refine gV rfl ?_
    refine gCons' ?_
    refine gCE (fun (b : V) (H : Hp) => ∃ (G : Hp), Ext G0 G ∧ Sub G (O) H ∧ b = V.bl (first1.2.2.2.2.1 && (!first1.2.2.2.2.2))) ?_ ?_
    · skip
      refine gAndV ?_
      refine gOp ?_
      refine gV rfl ?_
      refine gC ?_
      refine q_p6_4 S0 h2 (fun v8 h8 => ?_)
      obtain rfl := (show v8 = (V.bl first1.2.2.2.2.1) from h8)
      refine ⟨first1.2.2.2.2.1, rfl, ?_⟩
      refine ite2 (fun c1 => ?_) (fun c1 => ?_)
      · skip
        refine gNotV ?_
        refine gOp ?_
        refine gV rfl ?_
        refine gC ?_
        refine q_p6_5 S0 h2 (fun v9 h9 => ?_)
        obtain rfl := (show v9 = (V.bl first1.2.2.2.2.2) from h9)
        refine ⟨_, rfl, ?_⟩
        exact ⟨G0, (Ext.refl _), S0, congrArg V.bl (by rw [c1, Bool.true_and])⟩
      · skip
        exact ⟨G0, (Ext.refl _), S0, congrArg V.bl (by rw [ne_false c1, Bool.false_and])⟩
    · intro b1 H1 hJ
      obtain ⟨G1, e1, S1, rfl⟩ := hJ
      have h10 := R.up e1 h1
      have h11 := R.up e1 h2
      have h12 := R.up e1 h3
      have E1 := E0.trans e1
      refine gCons' ?_
      refine gCE (fun (b : V) (H : Hp) => ∃ (G : Hp), Ext G1 G ∧ Sub G (O) H ∧ b = V.bl (second1.2.2.2.2.1 && (!second1.2.2.2.2.2))) ?_ ?_
      · skip
        refine gAndV ?_
        refine gOp ?_
        refine gV rfl ?_
        refine gC ?_
        refine q_p6_4 S1 h12 (fun v14 h17 => ?_)
        obtain rfl := (show v14 = (V.bl second1.2.2.2.2.1) from h17)
        refine ⟨second1.2.2.2.2.1, rfl, ?_⟩
        refine ite2 (fun c2 => ?_) (fun c2 => ?_)
        · skip
          refine gNotV ?_
          refine gOp ?_
          refine gV rfl ?_
          refine gC ?_
          refine q_p6_5 S1 h12 (fun v15 h18 => ?_)
          obtain rfl := (show v15 = (V.bl second1.2.2.2.2.2) from h18)
          refine ⟨_, rfl, ?_⟩
          exact ⟨G1, (Ext.refl _), S1, congrArg V.bl (by rw [c2, Bool.true_and])⟩
        · skip
          exact ⟨G1, (Ext.refl _), S1, congrArg V.bl (by rw [ne_false c2, Bool.false_and])⟩
      · intro b2 H2 hJ
        obtain ⟨G2, e2, S2, rfl⟩ := hJ
        have h19 := R.up e2 h10
        have h20 := R.up e2 h11
        have h21 := R.up e2 h12
        have E2 := E1.trans e2
        refine gNil' ?_
        obtain ⟨r1, hq1, hm1⟩ := bindS hm0
        refine ⟨G2, (O), v1, joint1, (first1.2.2.2.2.1 && (!first1.2.2.2.2.2)), (second1.2.2.2.2.1 && (!second1.2.2.2.2.2)), rfl, S2, h19, r1, hq1, fun v16 G3 H3 e3 S3 h22 => ?_⟩
        have h23 := R.up e3 h19
        have h24 := R.up e3 h20
        have h25 := R.up e3 h21
        have E3 := E2.trans e3
        cases hm1
        exact q v16 G3 H3 E3 S3 h22
end
end Mr

set_option Elab.async false
set_option linter.all false
set_option maxRecDepth 100000
set_option maxHeartbeats 4000000
set_option synthInstance.maxSize 4000
set_option synthInstance.maxHeartbeats 400000
namespace Mr
open PySem PySem.Spec PyProof.Rows L2
section
variable {P : Program} {w : World} {K : PySem.W.Frag} {mg : Str → Option Value} {base : Heap}
theorem sc_inside : FnScope ["joint"] ["joint"] (defScope s_inside) := ⟨rfl, rfl, rfl, by decide +kernel, rfl, by decide +kernel, by decide +kernel⟩
theorem ok_inside (T : Tx K mg) : FnOk P w K mg base CX0 1 (He.fAd K ("inside", none)) T.fd_inside ["joint"] (sp_inside K) := by
  refine T.F_inside.ok sc_inside (fun vs H Q E h => ?_) (fun cdv A outer s H0 vs Q E hr h => ?_)
  · obtain ⟨G, O, v1, joint1, rfl, _⟩ := h
    rfl
  · obtain ⟨G0, O, v1, joint1, rfl, S0, h1, res, hm, q⟩ := h
    refine ⟨_, PSs.nox (pss_one (ps_ret (pe_tup (pa_cons (pe_ix ix_tup (pe_ix ix_tup (pv 0) pe_int (fun _ _ => rfl)) pe_int (fun _ _ => rfl)) (pa_cons (pe_ix ix_tup (pv 0) pe_int (fun _ _ => rfl)) (pa_cons (pe_ix ix_tup (pe_ix ix_tup (pv 0) pe_int (fun _ _ => rfl)) pe_int (fun _ _ => rfl)) (pa_cons (pe_ix ix_tup (pv 0) pe_int (fun _ _ => rfl)) (pa_cons (pe_ix ix_tup (pv 0) pe_int (fun _ _ => rfl)) pa_nil)))))))), ?_⟩
    have E0 := Ext.refl G0
    have hm0 : (some (joint1.1.2.1, joint1.2.1, joint1.2.2.1.2.1, joint1.2.2.2.1, joint1.2.2.2.2)) = some res := hm
    refine gRet ?_
    refine gTup' ?_
    refine gCons' ?_
    refine gOp ?_
    refine gOp ?_
    refine gV rfl ?_
    refine gC ?_
    refine q_p5_0 S0 h1 (fun v2 h2 => ?_)
    refine gC ?_
    refine q_p3_1 S0 h2 (fun v3 h3 => ?_)
    obtain rfl := (show v3 = (V.int joint1.1.2.1) from h3)
    refine gCons' ?_
    refine gOp ?_
    refine gV rfl ?_
    refine gC ?_
    refine q_p5_1 S0 h1 (fun v4 h4 => ?_)
    refine gCons' ?_
    refine gOp ?_
    refine gOp ?_
    refine gV rfl ?_
    refine gC ?_
    refine q_p5_2 S0 h1 (fun v5 h5 => ?_)
    refine gC ?_
    refine q_p3_1 S0 h5 (fun v6 h6 => ?_)
    obtain rfl := (show v6 = (V.int joint1.2.2.1.2.1) from h6)
    refine gCons' ?_
    refine gOp ?_
    refine gV rfl ?_
    refine gC ?_
    refine q_p5_3 S0 h1 (fun v7 h7 => ?_)
    refine gCons' ?_
    refine gOp ?_
    refine gV rfl ?_
    refine gC ?_
    refine q_p5_4 S0 h1 (fun v8 h8 => ?_)
    refine gNil' ?_
    refine q_tup5 (K := K) S0 (show R.rel rInt G0 (V.int joint1.1.2.1) joint1.1.2.1 from rfl) (show R.rel (rT K rInt) G0 v4 joint1.2.1 from h4) (show R.rel rInt G0 (V.int joint1.2.2.1.2.1) joint1.2.2.1.2.1 from rfl) (show R.rel (rT K rInt) G0 v7 joint1.2.2.2.1 from h7) (show R.rel (rT K (rP2 K rBool rInt)) G0 v8 joint1.2.2.2.2 from h8) (fun v9 G1 H1 e1 S1 h9 => ?_)
    have h10 := R.up e1 h1
    have E1 := E0.trans e1
    cases hm0
    exact q v9 G1 H1 E1 S1 h9
end
end Mr

set_option Elab.async false
set_option linter.all false
set_option maxRecDepth 100000
set_option maxHeartbeats 4000000
set_option synthInstance.maxSize 4000
set_option synthInstance.maxHeartbeats 400000
namespace Mr
open PySem PySem.Spec PyProof.Rows L2
section
variable {P : Program} {w : World} {K : PySem.W.Frag} {mg : Str → Option Value} {base : Heap}
theorem sc_joint_line : FnScope ["lengths", "within", "spaces", "barred", "one", "two"] ["lengths", "within", "spaces", "barred"] (defScope s_joint_line) := ⟨rfl, rfl, rfl, by decide +kernel, rfl, by decide +kernel, by decide +kernel⟩
theorem ok_joint_line (T : Tx K mg) : FnOk P w K mg base CX0 5 (He.fAd K ("joint_line", none)) T.fd_joint_line ["lengths", "within", "spaces", "barred"] (sp_joint_line K) := by
  have G_merged__1 := ok_merged__1 (P := P) (w := w) (base := base) T
  have G_side_line := ok_side_line (P := P) (w := w) (base := base) T
  obtain ⟨tk_PARTED, c_PARTED⟩ := T.c_PARTED
  refine T.F_joint_line.ok sc_joint_line (fun vs H Q E h => ?_) (fun cdv A outer s H0 vs Q E hr h => ?_)
  · obtain ⟨G, O, v1, lengths1, v2, within1, v3, spaces1, v4, barred1, rfl, _⟩ := h
    rfl
  · obtain ⟨G0, O, v1, lengths1, v2, within1, v3, spaces1, v4, barred1, rfl, S0, h1, h2, h3, h4, res, hm, q⟩ := h
    refine ⟨_, PSs.nox (pss_cons (ps_if (pt_cmpR (op_eqD hr.units) (pv 1) (pe_glob (v := (V.str (Str.ofString "parted"))) (by rfl) c_PARTED ⟨_, rfl⟩) (nomark _)) (pss_one (ps_ret (pe_glob (v := (V.str (Str.ofString "parted"))) (by rfl) c_PARTED ⟨_, rfl⟩))) pss_nil)
      (pss_cons (ps_set (i := 4) sc_joint_line.nd rfl (.inl rfl) (pe_call G_side_line (hr.mono (by decide)) (by rfl) T.g_side_line T.F_side_line.kp T.b_side_line .nil pass0 (pa_cons (pe_ix ix_tup (pv 0) pe_int (fun _ _ => rfl)) (pa_cons (pe_tup (pa_cons (pe_ix ix_tup (pv 1) pe_int (fun _ _ => rfl)) (pa_cons (pe_ix ix_tup (pv 1) pe_int (fun _ _ => rfl)) pa_nil))) (pa_cons (pe_ix ix_tup (pv 2) pe_int (fun _ _ => rfl)) (pa_cons (pe_ix ix_tup (pv 3) pe_int (fun _ _ => rfl)) pa_nil))))))
      (pss_cons (ps_set (i := 5) sc_joint_line.nd rfl (.inl rfl) (pe_call G_side_line (hr.mono (by decide)) (by rfl) T.g_side_line T.F_side_line.kp T.b_side_line .nil pass0 (pa_cons (pe_ix ix_tup (pv 0) pe_int (fun _ _ => rfl)) (pa_cons (pe_tup (pa_cons (pe_ix ix_tup (pv 1) pe_int (fun _ _ => rfl)) (pa_cons (pe_ix ix_tup (pv 1) pe_int (fun _ _ => rfl)) pa_nil))) (pa_cons (pe_ix ix_tup (pv 2) pe_int (fun _ _ => rfl)) (pa_cons (pe_ix ix_tup (pv 3) pe_int (fun _ _ => rfl)) pa_nil))))))
      (pss_one (ps_ret (pe_call G_merged__1 (hr.mono (by decide)) (by rfl) T.g_merged T.F_merged.kp T.b_merged .nil pass0 (pa_cons (pv 1) (pa_cons (pv 4) (pa_cons (pv 5) pa_nil))))))))), ?_⟩
    have E0 := Ext.refl G0
    have hm0 : (if (decide (within1 = (none : (Option (Int × (List Int) × Int × (List Int) × (List (Bool × Int))))))) then (some (none : (Option (Int × (List Int) × Int × (List Int) × (List (Bool × Int))))))
  else (Option.bind (within1) fun j1 =>
  Option.bind (within1) fun j2 =>
  Option.bind (m_side_line lengths1.1 (j1.1, j2.2.1) spaces1.1 barred1.1) fun r1 =>
  Option.bind (within1) fun j3 =>
  Option.bind (within1) fun j4 =>
  Option.bind (m_side_line lengths1.2 (j3.2.2.1, j4.2.2.2.1) spaces1.2 barred1.2) fun r2 =>
  Option.bind (within1) fun j5 =>
  Option.bind (m_merged__1 j5 r1 r2) fun r3 =>
  some r3)) = some res := hm
    refine gS_IfS ?_
    refine gTest ?_
    refine gOp ?_
    refine gV rfl ?_
    refine gC ?_
    refine q_eqD (dA (Str.ofString "parted") (by decide +kernel) (dP5 (dInt (K := K)) (dT (dInt (K := K))) (dInt (K := K)) (dT (dInt (K := K))) (dT (dP2 (dBool (K := K)) (dInt (K := K))))) (fun _ => rfl)) (by show 12 ≤ 64; decide) (R.up S0.ext h2) (R.up S0.ext (rA_none : R.rel (rA (Str.ofString "parted") (rP5 K rInt (rT K rInt) rInt (rT K rInt) (rT K (rP2 K rBool rInt)))) G0 (V.str (Str.ofString "parted")) none)) ((okA (okP5 okI (okT okI) okI (okT okI) (okT (okP2 okB okI)))) _) ((okA (okP5 okI (okT okI) okI (okT okI) (okT (okP2 okB okI)))) _) ?_
    refine ⟨(decide (within1 = (none : (Option (Int × (List Int) × Int × (List Int) × (List (Bool × Int))))))), rfl, ?_⟩
    refine ite2 (fun c1 => ?_) (fun c1 => ?_)
    · skip
      have hm1 := (if_pos c1).symm.trans hm0
      refine gRet ?_
      refine gC ?_
      cases hm1
      exact q (V.str (Str.ofString "parted")) G0 H0 E0 S0 (rA_none : R.rel (rA (Str.ofString "parted") (rP5 K rInt (rT K rInt) rInt (rT K rInt) (rT K (rP2 K rBool rInt)))) G0 (V.str (Str.ofString "parted")) none)
    · skip
      have hm2 := (if_neg c1).symm.trans hm0
      refine gNext ?_
      refine gE ?_
      refine gS_AsgN ?_
      refine gCall ?_
      refine gCons' ?_
      refine gOp ?_
      refine gV rfl ?_
      refine gC ?_
      refine q_p2_0 S0 h1 (fun v5 h5 => ?_)
      obtain rfl := (show v5 = (V.int lengths1.1) from h5)
      refine gCons' ?_
      refine gTup' ?_
      refine gCons' ?_
      refine gOp ?_
      refine gV rfl ?_
      obtain ⟨j1, hq1, hm3⟩ := bindS hm2
      have h6 := rA_get h2 hq1
      refine gC ?_
      refine q_p5_0 S0 h6 (fun v6 h7 => ?_)
      obtain rfl := (show v6 = (V.int j1.1) from h7)
      refine gCons' ?_
      refine gOp ?_
      refine gV rfl ?_
      obtain ⟨j2, hq2, hm4⟩ := bindS hm3
      have h8 := rA_get h2 hq2
      refine gC ?_
      refine q_p5_1 S0 h8 (fun v7 h9 => ?_)
      refine gNil' ?_
      refine q_tup2 (K := K) S0 (show R.rel rInt G0 (V.int j1.1) j1.1 from rfl) (show R.rel (rT K rInt) G0 v7 j2.2.1 from h9) (fun v8 G1 H1 e1 S1 h10 => ?_)
      have h11 := R.up e1 h1
      have h12 := R.up e1 h2
      have h13 := R.up e1 h3
      have h14 := R.up e1 h4
      have E1 := E0.trans e1
      refine gCons' ?_
      refine gOp ?_
      refine gV rfl ?_
      refine gC ?_
      refine q_p2_0 S1 h13 (fun v9 h15 => ?_)
      obtain rfl := (show v9 = (V.int spaces1.1) from h15)
      refine gCons' ?_
      refine gOp ?_
      refine gV rfl ?_
      refine gC ?_
      refine q_p2_0 S1 h14 (fun v10 h16 => ?_)
      obtain rfl := (show v10 = (V.bl barred1.1) from h16)
      refine gNil' ?_
      obtain ⟨r1, hq3, hm5⟩ := bindS hm4
      refine ⟨G1, (O), lengths1.1, v8, (j1.1, j2.2.1), spaces1.1, barred1.1, rfl, S1, h10, r1, hq3, fun v11 G2 H2 e2 S2 h17 => ?_⟩
      have h18 := R.up e2 h11
      have h19 := R.up e2 h12
      have h20 := R.up e2 h13
      have h21 := R.up e2 h14
      have E2 := E1.trans e2
      refine gS_AsgN ?_
      refine gCall ?_
      refine gCons' ?_
      refine gOp ?_
      refine gV rfl ?_
      refine gC ?_
      refine q_p2_1 S2 h18 (fun v12 h22 => ?_)
      obtain rfl := (show v12 = (V.int lengths1.2) from h22)
      refine gCons' ?_
      refine gTup' ?_
      refine gCons' ?_
      refine gOp ?_
      refine gV rfl ?_
      obtain ⟨j3, hq4, hm6⟩ := bindS hm5
      have h23 := rA_get h19 hq4
      refine gC ?_
      refine q_p5_2 S2 h23 (fun v13 h24 => ?_)
      obtain rfl := (show v13 = (V.int j3.2.2.1) from h24)
      refine gCons' ?_
      refine gOp ?_
      refine gV rfl ?_
      obtain ⟨j4, hq5, hm7⟩ := bindS hm6
      have h25 := rA_get h19 hq5
      refine gC ?_
      refine q_p5_3 S2 h25 (fun v14 h26 => ?_)
      refine gNil' ?_
      refine q_tup2 (K := K) S2 (show R.rel rInt G2 (V.int j3.2.2.1) j3.2.2.1 from rfl) (show R.rel (rT K rInt) G2 v14 j4.2.2.2.1 from h26) (fun v15 G3 H3 e3 S3 h27 => ?_)
      have h28 := R.up e3 h18
      have h29 := R.up e3 h19
      have h30 := R.up e3 h20
      have h31 := R.up e3 h21
      have h32 := R.up e3 h17
      have E3 := E2.trans e3
      refine gCons' ?_
      refine gOp ?_
      refine gV rfl ?_
      refine gC ?_
      refine q_p2_1 S3 h30 (fun v16 h33 => ?_)
      obtain rfl := (show v16 = (V.int spaces1.2) from h33)
      refine gCons' ?_
      refine gOp ?_
      refine gV rfl ?_
      refine gC ?_
      refine q_p2_1 S3 h31 (fun v17 h34 => ?_)
      obtain rfl := (show v17 = (V.bl barred1.2) from h34)
      refine gNil' ?_
      obtain ⟨r2, hq6, hm8⟩ := bindS hm7
      refine ⟨G3, (O), lengths1.2, v15, (j3.2.2.1, j4.2.2.2.1), spaces1.2, barred1.2, rfl, S3, h27, r2, hq6, fun v18 G4 H4 e4 S4 h35 => ?_⟩
      have h36 := R.up e4 h28
      have h37 := R.up e4 h29
      have h38 := R.up e4 h30
      have h39 := R.up e4 h31
      have h40 := R.up e4 h32
      have E4 := E3.trans e4
      refine gRet ?_
      refine gCall ?_
      refine gCons' ?_
      refine gV rfl ?_
      refine gCons' ?_
      refine gV rfl ?_
      refine gCons' ?_
      refine gV rfl ?_
      refine gNil' ?_
      obtain ⟨j5, hq7, hm9⟩ := bindS hm8
      have h41 := rA_get h37 hq7
      obtain ⟨r3, hq8, hm10⟩ := bindS hm9
      refine ⟨G4, (O), v2, j5, v11, r1, v18, r2, rfl, S4, h41, h40, h35, r3, hq8, fun v19 G5 H5 e5 S5 h42 => ?_⟩
      have h43 := R.up e5 h36
      have h44 := R.up e5 h37
      have h45 := R.up e5 h38
      have h46 := R.up e5 h39
      have h47 := R.up e5 h40
      have h48 := R.up e5 h35
      have E5 := E4.trans e5
      cases hm10
      exact q v19 G5 H5 E5 S5 h42
end
end Mr

set_option Elab.async false
set_option linter.all false
set_option maxRecDepth 100000
set_option maxHeartbeats 4000000
set_option synthInstance.maxSize 4000
set_option synthInstance.maxHeartbeats 400000
namespace Mr
open PySem PySem.Spec PyProof.Rows L2
section
variable {P : Program} {w : World} {K : PySem.W.Frag} {mg : Str → Option Value} {base : Heap}
theorem sc_joint_close : FnScope ["lengths", "within", "first", "second", "one", "two"] ["lengths", "within", "first", "second"] (defScope s_joint_close) := ⟨rfl, rfl, rfl, by decide +kernel, rfl, by decide +kernel, by decide +kernel⟩
theorem ok_joint_close (T : Tx K mg) : FnOk P w K mg base CX0 4 (He.fAd K ("joint_close", none)) T.fd_joint_close ["lengths", "within", "first", "second"] (sp_joint_close K) := by
  have G_close_side := ok_close_side (P := P) (w := w) (base := base) T
  have G_merged__2 := ok_merged__2 (P := P) (w := w) (base := base) T
  obtain ⟨tk_PARTED, c_PARTED⟩ := T.c_PARTED
  refine T.F_joint_close.ok sc_joint_close (fun vs H Q E h => ?_) (fun cdv A outer s H0 vs Q E hr h => ?_)
  · obtain ⟨G, O, v1, lengths1, v2, within1, v3, first1, v4, second1, rfl, _⟩ := h
    rfl
  · obtain ⟨G0, O, v1, lengths1, v2, within1, v3, first1, v4, second1, rfl, S0, h1, h2, h3, h4, res, hm, q⟩ := h
    refine ⟨_, PSs.nox (pss_cons (ps_if (pt_cmpR (op_eqD hr.units) (pv 1) (pe_glob (v := (V.str (Str.ofString "parted"))) (by rfl) c_PARTED ⟨_, rfl⟩) (nomark _)) (pss_one (ps_ret (pe_glob (v := (V.str (Str.ofString "parted"))) (by rfl) c_PARTED ⟨_, rfl⟩))) pss_nil)
      (pss_cons (ps_set (i := 4) sc_joint_close.nd rfl (.inl rfl) (pe_call G_close_side (hr.mono (by decide)) (by rfl) T.g_close_side T.F_close_side.kp T.b_close_side .nil pass0 (pa_cons (pe_ix ix_tup (pv 0) pe_int (fun _ _ => rfl)) (pa_cons (pe_tup (pa_cons (pe_ix ix_tup (pv 1) pe_int (fun _ _ => rfl)) (pa_cons (pe_ix ix_tup (pv 1) pe_int (fun _ _ => rfl)) pa_nil))) (pa_cons (pe_ix ix_tup (pv 2) pe_int (fun _ _ => rfl)) pa_nil)))))
      (pss_cons (ps_set (i := 5) sc_joint_close.nd rfl (.inl rfl) (pe_call G_close_side (hr.mono (by decide)) (by rfl) T.g_close_side T.F_close_side.kp T.b_close_side .nil pass0 (pa_cons (pe_ix ix_tup (pv 0) pe_int (fun _ _ => rfl)) (pa_cons (pe_tup (pa_cons (pe_ix ix_tup (pv 1) pe_int (fun _ _ => rfl)) (pa_cons (pe_ix ix_tup (pv 1) pe_int (fun _ _ => rfl)) pa_nil))) (pa_cons (pe_ix ix_tup (pv 3) pe_int (fun _ _ => rfl)) pa_nil)))))
      (pss_one (ps_ret (pe_call G_merged__2 (hr.mono (by decide)) (by rfl) T.g_merged T.F_merged.kp T.b_merged .nil pass0 (pa_cons (pv 1) (pa_cons (pv 4) (pa_cons (pv 5) pa_nil))))))))), ?_⟩
    have E0 := Ext.refl G0
    have hm0 : (if (decide (within1 = (none : (Option (Int × (List Int) × Int × (List Int) × (List (Bool × Int))))))) then (some (none : (Option ((Wd × Int × Int) × (List Int) × (Wd × Int × Int) × (List Int) × (List (Bool × Int))))))
  else (Option.bind (within1) fun j1 =>
  Option.bind (within1) fun j2 =>
  Option.bind (m_close_side lengths1.1 (j1.1, j2.2.1) first1.2.2.2.1) fun r1 =>
  Option.bind (within1) fun j3 =>
  Option.bind (within1) fun j4 =>
  Option.bind (m_close_side lengths1.2 (j3.2.2.1, j4.2.2.2.1) second1.2.2.2.1) fun r2 =>
  Option.bind (within1) fun j5 =>
  Option.bind (m_merged__2 j5 r1 r2) fun r3 =>
  some r3)) = some res := hm
    refine gS_IfS ?_
    refine gTest ?_
    refine gOp ?_
    refine gV rfl ?_
    refine gC ?_
    refine q_eqD (dA (Str.ofString "parted") (by decide +kernel) (dP5 (dInt (K := K)) (dT (dInt (K := K))) (dInt (K := K)) (dT (dInt (K := K))) (dT (dP2 (dBool (K := K)) (dInt (K := K))))) (fun _ => rfl)) (by show 12 ≤ 64; decide) (R.up S0.ext h2) (R.up S0.ext (rA_none : R.rel (rA (Str.ofString "parted") (rP5 K rInt (rT K rInt) rInt (rT K rInt) (rT K (rP2 K rBool rInt)))) G0 (V.str (Str.ofString "parted")) none)) ((okA (okP5 okI (okT okI) okI (okT okI) (okT (okP2 okB okI)))) _) ((okA (okP5 okI (okT okI) okI (okT okI) (okT (okP2 okB okI)))) _) ?_
    refine ⟨(decide (within1 = (none : (Option (Int × (List Int) × Int × (List Int) × (List (Bool × Int))))))), rfl, ?_⟩
    refine ite2 (fun c1 => ?_) (fun c1 => ?_)
    · skip
      have hm1 := (if_pos c1).symm.trans hm0
      refine gRet ?_
      refine gC ?_
      cases hm1
      exact q (V.str (Str.ofString "parted")) G0 H0 E0 S0 (rA_none : R.rel (rA (Str.ofString "parted") (rP5 K (rP3 K (rEn e_Wd) rInt rInt) (rT K rInt) (rP3 K (rEn e_Wd) rInt rInt) (rT K rInt) (rT K (rP2 K rBool rInt)))) G0 (V.str (Str.ofString "parted")) none)
    · skip
      have hm2 := (if_neg c1).symm.trans hm0
      refine gNext ?_
      refine gE ?_
      refine gS_AsgN ?_
      refine gCall ?_
      refine gCons' ?_
      refine gOp ?_
      refine gV rfl ?_
      refine gC ?_
      refine q_p2_0 S0 h1 (fun v5 h5 => ?_)
      obtain rfl := (show v5 = (V.int lengths1.1) from h5)
      refine gCons' ?_
      refine gTup' ?_
      refine gCons' ?_
      refine gOp ?_
      refine gV rfl ?_
      obtain ⟨j1, hq1, hm3⟩ := bindS hm2
      have h6 := rA_get h2 hq1
      refine gC ?_
      refine q_p5_0 S0 h6 (fun v6 h7 => ?_)
      obtain rfl := (show v6 = (V.int j1.1) from h7)
      refine gCons' ?_
      refine gOp ?_
      refine gV rfl ?_
      obtain ⟨j2, hq2, hm4⟩ := bindS hm3
      have h8 := rA_get h2 hq2
      refine gC ?_
      refine q_p5_1 S0 h8 (fun v7 h9 => ?_)
      refine gNil' ?_
      refine q_tup2 (K := K) S0 (show R.rel rInt G0 (V.int j1.1) j1.1 from rfl) (show R.rel (rT K rInt) G0 v7 j2.2.1 from h9) (fun v8 G1 H1 e1 S1 h10 => ?_)
      have h11 := R.up e1 h1
      have h12 := R.up e1 h2
      have h13 := R.up e1 h3
      have h14 := R.up e1 h4
      have E1 := E0.trans e1
      refine gCons' ?_
      refine gOp ?_
      refine gV rfl ?_
      refine gC ?_
      refine q_p6_3 S1 h13 (fun v9 h15 => ?_)
      obtain rfl := (show v9 = (V.bl first1.2.2.2.1) from h15)
      refine gNil' ?_
      obtain ⟨r1, hq3, hm5⟩ := bindS hm4
      refine ⟨G1, (O), lengths1.1, v8, (j1.1, j2.2.1), first1.2.2.2.1, rfl, S1, h10, r1, hq3, fun v10 G2 H2 e2 S2 h16 => ?_⟩
      have h17 := R.up e2 h11
      have h18 := R.up e2 h12
      have h19 := R.up e2 h13
      have h20 := R.up e2 h14
      have E2 := E1.trans e2
      refine gS_AsgN ?_
      refine gCall ?_
      refine gCons' ?_
      refine gOp ?_
      refine gV rfl ?_
      refine gC ?_
      refine q_p2_1 S2 h17 (fun v11 h21 => ?_)
      obtain rfl := (show v11 = (V.int lengths1.2) from h21)
      refine gCons' ?_
      refine gTup' ?_
      refine gCons' ?_
      refine gOp ?_
      refine gV rfl ?_
      obtain ⟨j3, hq4, hm6⟩ := bindS hm5
      have h22 := rA_get h18 hq4
      refine gC ?_
      refine q_p5_2 S2 h22 (fun v12 h23 => ?_)
      obtain rfl := (show v12 = (V.int j3.2.2.1) from h23)
      refine gCons' ?_
      refine gOp ?_
      refine gV rfl ?_
      obtain ⟨j4, hq5, hm7⟩ := bindS hm6
      have h24 := rA_get h18 hq5
      refine gC ?_
      refine q_p5_3 S2 h24 (fun v13 h25 => ?_)
      refine gNil' ?_
      refine q_tup2 (K := K) S2 (show R.rel rInt G2 (V.int j3.2.2.1) j3.2.2.1 from rfl) (show R.rel (rT K rInt) G2 v13 j4.2.2.2.1 from h25) (fun v14 G3 H3 e3 S3 h26 => ?_)
      have h27 := R.up e3 h17
      have h28 := R.up e3 h18
      have h29 := R.up e3 h19
      have h30 := R.up e3 h20
      have h31 := R.up e3 h16
      have E3 := E2.trans e3
      refine gCons' ?_
      refine gOp ?_
      refine gV rfl ?_
      refine gC ?_
      refine q_p6_3 S3 h30 (fun v15 h32 => ?_)
      obtain rfl := (show v15 = (V.bl second1.2.2.2.1) from h32)
      refine gNil' ?_
      obtain ⟨r2, hq6, hm8⟩ := bindS hm7
      refine ⟨G3, (O), lengths1.2, v14, (j3.2.2.1, j4.2.2.2.1), second1.2.2.2.1, rfl, S3, h26, r2, hq6, fun v16 G4 H4 e4 S4 h33 => ?_⟩
      have h34 := R.up e4 h27
      have h35 := R.up e4 h28
      have h36 := R.up e4 h29
      have h37 := R.up e4 h30
      have h38 := R.up e4 h31
      have E4 := E3.trans e4
      refine gRet ?_
      refine gCall ?_
      refine gCons' ?_
      refine gV rfl ?_
      refine gCons' ?_
      refine gV rfl ?_
      refine gCons' ?_
      refine gV rfl ?_
      refine gNil' ?_
      obtain ⟨j5, hq7, hm9⟩ := bindS hm8
      have h39 := rA_get h35 hq7
      obtain ⟨r3, hq8, hm10⟩ := bindS hm9
      refine ⟨G4, (O), v2, j5, v10, r1, v16, r2, rfl, S4, h39, h38, h33, r3, hq8, fun v17 G5 H5 e5 S5 h40 => ?_⟩
      have h41 := R.up e5 h34
      have h42 := R.up e5 h35
      have h43 := R.up e5 h36
      have h44 := R.up e5 h37
      have h45 := R.up e5 h38
      have h46 := R.up e5 h33
      have E5 := E4.trans e5
      cases hm10
      exact q v17 G5 H5 E5 S5 h40
end
end Mr

set_option Elab.async false
set_option linter.all false
set_option maxRecDepth 100000
set_option maxHeartbeats 4000000
set_option synthInstance.maxSize 4000
set_option synthInstance.maxHeartbeats 400000
namespace Mr
open PySem PySem.Spec PyProof.Rows L2
section
variable {P : Program} {w : World} {K : PySem.W.Frag} {mg : Str → Option Value} {base : Heap}
theorem sc_line_rules : FnScope ["joint", "number", "is_last", "first", "second", "barred"] ["joint", "number", "is_last", "first", "second"] (defScope s_line_rules) := ⟨rfl, rfl, rfl, by decide +kernel, rfl, by decide +kernel, by decide +kernel⟩
theorem ok_line_rules (T : Tx K mg) : FnOk P w K mg base CX0 1 (He.fAd K ("line_rules", none)) T.fd_line_rules ["joint", "number", "is_last", "first", "second"] (sp_line_rules K) := by
  refine T.F_line_rules.ok sc_line_rules (fun vs H Q E h => ?_) (fun cdv A outer s H0 vs Q E hr h => ?_)
  · obtain ⟨G, O, v1, joint1, number1, is_last1, v2, first1, v3, second1, rfl, _⟩ := h
    rfl
  · obtain ⟨G0, O, v1, joint1, number1, is_last1, v2, first1, v3, second1, rfl, S0, h1, h2, h3, res, hm, q⟩ := h
    refine ⟨_, PSs.nox (pss_cons (ps_if (pt_cmpR op_eqI (pv 1) pe_int (nomark _)) (pss_one (ps_ret (pe_tup (pa_cons (pe_tup (pa_cons (pe_ix ix_tup (pv 3) pe_int (fun _ _ => rfl)) (pa_cons (pe_ix ix_tup (pv 4) pe_int (fun _ _ => rfl)) pa_nil))) (pa_cons (pe_tup (pa_cons (pe_cmpR (op_eqE e_Wd_inj) (pe_ix ix_tup (pe_ix ix_tup (pv 0) pe_int (fun _ _ => rfl)) pe_int (fun _ _ => rfl)) pe_str (nomark _)) (pa_cons (pe_cmpR (op_eqE e_Wd_inj) (pe_ix ix_tup (pe_ix ix_tup (pv 0) pe_int (fun _ _ => rfl)) pe_int (fun _ _ => rfl)) pe_str (nomark _)) pa_nil))) pa_nil))))) pss_nil)
      (pss_cons (ps_set (i := 5) sc_line_rules.nd rfl (.inl rfl) (pe_cut (pe_or (pe_cmpR op_eqI (pv 1) pe_int (nomark _)) (pe_one (pv 2)))))
      (pss_one (ps_ret (pe_tup (pa_cons (pe_tup (pa_cons pe_int (pa_cons pe_int pa_nil))) (pa_cons (pe_tup (pa_cons (pv 5) (pa_cons (pv 5) pa_nil))) pa_nil))))))), ?_⟩
    have E0 := Ext.refl G0
    have hm0 : (if (decide (number1 = (0 : Int))) then (some ((first1.2.2.1, second1.2.2.1), ((decide (joint1.1.1 = Wd.kept)), (decide (joint1.2.2.1.1 = Wd.kept)))))
  else (some (((0 : Int), (0 : Int)), (((decide (number1 = (1 : Int))) || is_last1), ((decide (number1 = (1 : Int))) || is_last1))))) = some res := hm
    refine gS_IfS ?_
    refine gTest ?_
    refine gOp ?_
    refine gV rfl ?_
    refine gC ?_
    refine ⟨_, _, rfl, rfl, ?_⟩
    refine ⟨(decide (number1 = (0 : Int))), rfl, ?_⟩
    refine ite2 (fun c1 => ?_) (fun c1 => ?_)
    · skip
      have hm1 := (if_pos c1).symm.trans hm0
      refine gRet ?_
      refine gTup' ?_
      refine gCons' ?_
      refine gTup' ?_
      refine gCons' ?_
      refine gOp ?_
      refine gV rfl ?_
      refine gC ?_
      refine q_p6_2 S0 h2 (fun v4 h4 => ?_)
      obtain rfl := (show v4 = (V.int first1.2.2.1) from h4)
      refine gCons' ?_
      refine gOp ?_
      refine gV rfl ?_
      refine gC ?_
      refine q_p6_2 S0 h3 (fun v5 h5 => ?_)
      obtain rfl := (show v5 = (V.int second1.2.2.1) from h5)
      refine gNil' ?_
      refine q_tup2 (K := K) S0 (show R.rel rInt G0 (V.int first1.2.2.1) first1.2.2.1 from rfl) (show R.rel rInt G0 (V.int second1.2.2.1) second1.2.2.1 from rfl) (fun v6 G1 H1 e1 S1 h6 => ?_)
      have h7 := R.up e1 h1
      have h8 := R.up e1 h2
      have h9 := R.up e1 h3
      have E1 := E0.trans e1
      refine gCons' ?_
      refine gTup' ?_
      refine gCons' ?_
      refine gOp ?_
      refine gOp ?_
      refine gOp ?_
      refine gV rfl ?_
      refine gC ?_
      refine q_p5_0 S1 h7 (fun v7 h10 => ?_)
      refine gC ?_
      refine q_p3_0 S1 h10 (fun v8 h11 => ?_)
      obtain rfl := (show v8 = (V.str (e_Wd joint1.1.1)) from h11)
      refine gC ?_
      refine ⟨joint1.1.1, Wd.kept, rfl, rfl, ?_⟩
      refine gCons' ?_
      refine gOp ?_
      refine gOp ?_
      refine gOp ?_
      refine gV rfl ?_
      refine gC ?_
      refine q_p5_2 S1 h7 (fun v9 h12 => ?_)
      refine gC ?_
      refine q_p3_0 S1 h12 (fun v10 h13 => ?_)
      obtain rfl := (show v10 = (V.str (e_Wd joint1.2.2.1.1)) from h13)
      refine gC ?_
      refine ⟨joint1.2.2.1.1, Wd.kept, rfl, rfl, ?_⟩
      refine gNil' ?_
      refine q_tup2 (K := K) S1 (show R.rel rBool G1 (V.bl (decide (joint1.1.1 = Wd.kept))) (decide (joint1.1.1 = Wd.kept)) from rfl) (show R.rel rBool G1 (V.bl (decide (joint1.2.2.1.1 = Wd.kept))) (decide (joint1.2.2.1.1 = Wd.kept)) from rfl) (fun v11 G2 H2 e2 S2 h14 => ?_)
      have h15 := R.up e2 h7
      have h16 := R.up e2 h8
      have h17 := R.up e2 h9
      have h18 := R.up e2 h6
      have E2 := E1.trans e2
      refine gNil' ?_
      refine q_tup2 (K := K) S2 (show R.rel (rP2 K rInt rInt) G2 v6 (first1.2.2.1, second1.2.2.1) from h18) (show R.rel (rP2 K rBool rBool) G2 v11 ((decide (joint1.1.1 = Wd.kept)), (decide (joint1.2.2.1.1 = Wd.kept))) from h14) (fun v12 G3 H3 e3 S3 h19 => ?_)
      have h20 := R.up e3 h15
      have h21 := R.up e3 h16
      have h22 := R.up e3 h17
      have E3 := E2.trans e3
      cases hm1
      exact q v12 G3 H3 E3 S3 h19
    · skip
      have hm2 := (if_neg c1).symm.trans hm0
      refine gNext ?_
      refine gE ?_
      refine gS_AsgN ?_
      refine gCE (fun (b : V) (H : Hp) => ∃ (G : Hp), Ext G0 G ∧ Sub G (O) H ∧ b = V.bl ((decide (number1 = (1 : Int))) || is_last1)) ?_ ?_
      · skip
        refine gOrV ?_
        refine gOp ?_
        refine gV rfl ?_
        refine gC ?_
        refine ⟨_, _, rfl, rfl, ?_⟩
        refine ⟨(decide (number1 = (1 : Int))), rfl, ?_⟩
        refine ite2 (fun c2 => ?_) (fun c2 => ?_)
        · skip
          exact ⟨G0, (Ext.refl _), S0, congrArg V.bl (by rw [c2, Bool.true_or])⟩
        · skip
          refine gV rfl ?_
          exact ⟨G0, (Ext.refl _), S0, congrArg V.bl (by rw [ne_false c2, Bool.false_or])⟩
      · intro b1 H4 hJ
        obtain ⟨G4, e4, S4, rfl⟩ := hJ
        have h23 := R.up e4 h1
        have h24 := R.up e4 h2
        have h25 := R.up e4 h3
        have E4 := E0.trans e4
        refine gRet ?_
        refine gTup' ?_
        refine gCons' ?_
        refine gTup' ?_
        refine gCons' ?_
        refine gC ?_
        refine gCons' ?_
        refine gC ?_
        refine gNil' ?_
        refine q_tup2 (K := K) S4 (show R.rel rInt G4 (V.int (0 : Int)) (0 : Int) from rfl) (show R.rel rInt G4 (V.int (0 : Int)) (0 : Int) from rfl) (fun v13 G5 H5 e5 S5 h26 => ?_)
        have h27 := R.up e5 h23
        have h28 := R.up e5 h24
        have h29 := R.up e5 h25
        have E5 := E4.trans e5
        refine gCons' ?_
        refine gTup' ?_
        refine gCons' ?_
        refine gV rfl ?_
        refine gCons' ?_
        refine gV rfl ?_
        refine gNil' ?_
        refine q_tup2 (K := K) S5 (show R.rel rBool G5 (V.bl ((decide (number1 = (1 : Int))) || is_last1)) ((decide (number1 = (1 : Int))) || is_last1) from rfl) (show R.rel rBool G5 (V.bl ((decide (number1 = (1 : Int))) || is_last1)) ((decide (number1 = (1 : Int))) || is_last1) from rfl) (fun v14 G6 H6 e6 S6 h30 => ?_)
        have h31 := R.up e6 h27
        have h32 := R.up e6 h28
        have h33 := R.up e6 h29
        have h34 := R.up e6 h26
        have E6 := E5.trans e6
        refine gNil' ?_
        refine q_tup2 (K := K) S6 (show R.rel (rP2 K rInt rInt) G6 v13 ((0 : Int), (0 : Int)) from h34) (show R.rel (rP2 K rBool rBool) G6 v14 (((decide (number1 = (1 : Int))) || is_last1), ((decide (number1 = (1 : Int))) || is_last1)) from h30) (fun v15 G7 H7 e7 S7 h35 => ?_)
        have h36 := R.up e7 h31
        have h37 := R.up e7 h32
        have h38 := R.up e7 h33
        have E7 := E6.trans e7
        cases hm2
        exact q v15 G7 H7 E7 S7 h35
end
end Mr

set_option Elab.async false
set_option linter.all false
set_option maxRecDepth 100000
set_option maxHeartbeats 4000000
set_option synthInstance.maxSize 4000
set_option synthInstance.maxHeartbeats 400000
namespace Mr
open PySem PySem.Spec PyProof.Rows L2
section
variable {P : Program} {w : World} {K : PySem.W.Frag} {mg : Str → Option Value} {base : Heap}
theorem sc_joint_lines : FnScope ["lengths", "joint", "count", "first", "second", "within", "number", "spaces", "barred"] ["lengths", "joint", "count", "first", "second"] (defScope s_joint_lines) := ⟨rfl, rfl, rfl, by decide +kernel, rfl, by decide +kernel, by decide +kernel⟩
theorem ok_joint_lines (T : Tx K mg) : FnOk P w K mg base CX0 6 (He.fAd K ("joint_lines", none)) T.fd_joint_lines ["lengths", "joint", "count", "first", "second"] (sp_joint_lines K) := by
  have G_inside := ok_inside (P := P) (w := w) (base := base) T
  have G_joint_close := ok_joint_close (P := P) (w := w) (base := base) T
  have G_joint_line := ok_joint_line (P := P) (w := w) (base := base) T
  have G_line_rules := ok_line_rules (P := P) (w := w) (base := base) T
  refine T.F_joint_lines.ok sc_joint_lines (fun vs H Q E h => ?_) (fun cdv A outer s H0 vs Q E hr h => ?_)
  · obtain ⟨G, O, v1, lengths1, v2, joint1, count1, v3, first1, v4, second1, rfl, _⟩ := h
    rfl
  · obtain ⟨G0, O, v1, lengths1, v2, joint1, count1, v3, first1, v4, second1, rfl, S0, h1, h2, h3, h4, res, hm, q⟩ := h
    refine ⟨_, PSs.nox (pss_cons (ps_set (i := 5) sc_joint_lines.nd rfl (.inl rfl) (pe_call G_inside (hr.mono (by decide)) (by rfl) T.g_inside T.F_inside.kp T.b_inside .nil pass0 (pa_cons (pv 1) pa_nil)))
      (pss_cons (ps_cut (ps_for PassesOwn.never rfl (pi_range1 (by rfl) T.z_range (pa_cons (pv 2) pa_nil)) (pg_name (i := 6) sc_joint_lines.nd rfl (.inl rfl))
      (pss_cons (ps_asg (pe_call G_line_rules (hr.mono (by decide)) (by rfl) T.g_line_rules T.F_line_rules.kp T.b_line_rules .nil pass0 (pa_cons (pv 1) (pa_cons (pv 6) (pa_cons (pe_cmpR op_eqI (pv 6) (pe_op op_sub (pv 2) pe_int) (nomark _)) (pa_cons (pv 3) (pa_cons (pv 4) pa_nil)))))) (pg_tup rfl (pgs_cons (pg_name (i := 7) sc_joint_lines.nd rfl (.inl rfl)) (pgs_cons (pg_name (i := 8) sc_joint_lines.nd rfl (.inl rfl)) pgs_nil))))
      (pss_one (ps_set (i := 5) sc_joint_lines.nd rfl (.inl rfl) (pe_call G_joint_line (hr.mono (by decide)) (by rfl) T.g_joint_line T.F_joint_line.kp T.b_joint_line .nil pass0 (pa_cons (pv 0) (pa_cons (pv 5) (pa_cons (pv 7) (pa_cons (pv 8) pa_nil))))))))))
      (pss_one (ps_ret (pe_call G_joint_close (hr.mono (by decide)) (by rfl) T.g_joint_close T.F_joint_close.kp T.b_joint_close .nil pass0 (pa_cons (pv 0) (pa_cons (pv 5) (pa_cons (pv 3) (pa_cons (pv 4) pa_nil))))))))), ?_⟩
    have E0 := Ext.refl G0
    have hm0 : (Option.bind (m_inside joint1) fun r1 =>
  Option.bind (rngM count1) fun xs1 =>
  Option.bind (folM (m_joint_lines_b1 lengths1 joint1 count1 first1 second1) xs1 (some r1)) fun within1 =>
  Option.bind (m_joint_close lengths1 within1 first1 second1) fun r4 =>
  some r4) = some res := hm
    refine gS_AsgN ?_
    refine gCall ?_
    refine gCons' ?_
    refine gV rfl ?_
    refine gNil' ?_
    obtain ⟨r1, hq1, hm1⟩ := bindS hm0
    refine ⟨G0, (O), v2, joint1, rfl, S0, h2, r1, hq1, fun v5 G1 H1 e1 S1 h5 => ?_⟩
    have h6 := R.up e1 h1
    have h7 := R.up e1 h2
    have h8 := R.up e1 h3
    have h9 := R.up e1 h4
    have E1 := E0.trans e1
    obtain ⟨xs1, hq2, hm2⟩ := bindS hm1
    obtain ⟨within1, hl1, hm3⟩ := bindS hm2
    refine gS_CS (fun (σ : L2.St) (H : Hp) => ∃ (G : Hp) (v6 : V) (y1 : Option V) (y2 : Option V) (y3 : Option V), Ext G1 G ∧ Sub G (O) H ∧ σ = [some v1, some v2, some (V.int count1), some v3, some v4, some v6, y1, y2, y3] ∧ R.rel (rA (Str.ofString "parted") (rP5 K rInt (rT K rInt) rInt (rT K rInt) (rT K (rP2 K rBool rInt)))) G v6 within1) ?_ ?_
    · skip
      refine gFor ?_
      refine gIR ?_
      refine gCons' ?_
      refine gV rfl ?_
      refine gNil' ?_
      refine lp_R hq2 (fol_for Empty hl1) (fun (s : (Option (Int × (List Int) × Int × (List Int) × (List (Bool × Int))))) (σ : L2.St) (H : Hp) => ∃ (G : Hp) (v6 : V) (y1 : Option V) (y2 : Option V) (y3 : Option V), Ext G1 G ∧ Sub G (O) H ∧ σ = [some v1, some v2, some (V.int count1), some v3, some v4, some v6, y1, y2, y3] ∧ R.rel (rA (Str.ofString "parted") (rP5 K rInt (rT K rInt) rInt (rT K rInt) (rT K (rP2 K rBool rInt)))) G v6 s) ⟨G1, v5, _, _, _, (Ext.refl _), S1, rfl, (rA_some (c := Str.ofString "parted") (show R.rel (rP5 K rInt (rT K rInt) rInt (rT K rInt) (rT K (rP2 K rBool rInt))) G1 v5 r1 from h5))⟩ ?_ ?_
      · intro i1 x1 within2 b1 hb1 hr1 σ1 H2 hI1
        obtain ⟨s2, hb2, hb3⟩ := goF_some hb1
        subst hb3
        obtain ⟨G2, v8, y4, y5, y6, e2, S2, rfl, h11⟩ := hI1
        have h12 := R.up e2 h6
        have h13 := R.up e2 h7
        have h14 := R.up e2 h8
        have h15 := R.up e2 h9
        have E2 := E1.trans e2
        have hm4 : (Option.bind (m_line_rules joint1 x1 (decide (x1 = (count1 - (1 : Int)))) first1 second1) fun r2 =>
  Option.bind (m_joint_line lengths1 within2 r2.1 r2.2) fun r3 =>
  some r3) = some s2 := hb2
        refine gS_Asg ?_
        refine gCall ?_
        refine gCons' ?_
        refine gV rfl ?_
        refine gCons' ?_
        refine gV rfl ?_
        refine gCons' ?_
        refine gOp ?_
        refine gV rfl ?_
        refine gOp ?_
        refine gV rfl ?_
        refine gC ?_
        refine ⟨_, _, rfl, rfl, ?_⟩
        refine ⟨_, _, rfl, rfl, ?_⟩
        refine gCons' ?_
        refine gV rfl ?_
        refine gCons' ?_
        refine gV rfl ?_
        refine gNil' ?_
        obtain ⟨r2, hq3, hm5⟩ := bindS hm4
        refine ⟨G2, (O), v2, joint1, x1, (decide (x1 = (count1 - (1 : Int)))), v3, first1, v4, second1, rfl, S2, h13, h14, h15, r2, hq3, fun v9 G3 H3 e3 S3 h16 => ?_⟩
        have h17 := R.up e3 h12
        have h18 := R.up e3 h13
        have h19 := R.up e3 h14
        have h20 := R.up e3 h15
        have h21 := R.up e3 h11
        have E3 := E2.trans e3
        refine q_gt2 S3 h16 (fun v10 v11 h22 h23 => ?_)
        refine gAsgN ?_
        refine gCall ?_
        refine gCons' ?_
        refine gV rfl ?_
        refine gCons' ?_
        refine gV rfl ?_
        refine gCons' ?_
        refine gV rfl ?_
        refine gCons' ?_
        refine gV rfl ?_
        refine gNil' ?_
        obtain ⟨r3, hq4, hm6⟩ := bindS hm5
        refine ⟨G3, (O), v1, lengths1, v8, within2, v10, r2.1, v11, r2.2, rfl, S3, h17, h21, h22, h23, r3, hq4, fun v12 G4 H4 e4 S4 h24 => ?_⟩
        have h25 := R.up e4 h17
        have h26 := R.up e4 h18
        have h27 := R.up e4 h19
        have h28 := R.up e4 h20
        have h29 := R.up e4 h21
        have h30 := R.up e4 h22
        have h31 := R.up e4 h23
        have E4 := E3.trans e4
        cases hm6
        exact ⟨_, ⟨G4, v12, _, _, _, ((e2.trans e3).trans e4), S4, rfl, h24⟩, hr1⟩
      · intro s σ H h1 h2
        cases h1
        obtain ⟨G, k1, k2, k3, k4, ie, irest⟩ := h2
        exact ⟨G, k1, k2, k3, k4, (ie), irest⟩
    · intro σ2 H5 hJ1
      obtain ⟨G5, v13, y7, y8, y9, e5, S5, rfl, h32⟩ := hJ1
      have h33 := R.up e5 h6
      have h34 := R.up e5 h7
      have h35 := R.up e5 h8
      have h36 := R.up e5 h9
      have E5 := E1.trans e5
      refine gRet ?_
      refine gCall ?_
      refine gCons' ?_
      refine gV rfl ?_
      refine gCons' ?_
      refine gV rfl ?_
      refine gCons' ?_
      refine gV rfl ?_
      refine gCons' ?_
      refine gV rfl ?_
      refine gNil' ?_
      obtain ⟨r4, hq5, hm7⟩ := bindS hm3
      refine ⟨G5, (O), v1, lengths1, v13, within1, v3, first1, v4, second1, rfl, S5, h33, h32, h35, h36, r4, hq5, fun v14 G6 H6 e6 S6 h37 => ?_⟩
      have h38 := R.up e6 h33
      have h39 := R.up e6 h34
      have h40 := R.up e6 h35
      have h41 := R.up e6 h36
      have h42 := R.up e6 h32
      have E6 := E5.trans e6
      cases hm7
      exact q v14 G6 H6 E6 S6 h37
end
end Mr

set_option Elab.async false
set_option linter.all false
set_option maxRecDepth 100000
set_option maxHeartbeats 4000000
set_option synthInstance.maxSize 4000
set_option synthInstance.maxHeartbeats 400000
namespace Mr
open PySem PySem.Spec PyProof.Rows L2
section
variable {P : Program} {w : World} {K : PySem.W.Frag} {mg : Str → Option Value} {base : Heap}
theorem sc_joint_block : FnScope ["lengths", "joint", "count", "first", "second"] ["lengths", "joint", "count", "first", "second"] (defScope s_joint_block) := ⟨rfl, rfl, rfl, by decide +kernel, rfl, by decide +kernel, by decide +kernel⟩
theorem ok_joint_block (T : Tx K mg) : FnOk P w K mg base CX0 7 (He.fAd K ("joint_block", none)) T.fd_joint_block ["lengths", "joint", "count", "first", "second"] (sp_joint_block K) := by
  have G_joint_lines := ok_joint_lines (P := P) (w := w) (base := base) T
  have G_joint_pages_of := ok_joint_pages_of (P := P) (w := w) (base := base) T
  obtain ⟨tk_PARTED, c_PARTED⟩ := T.c_PARTED
  refine T.F_joint_block.ok sc_joint_block (fun vs H Q E h => ?_) (fun cdv A outer s H0 vs Q E hr h => ?_)
  · obtain ⟨G, O, v1, lengths1, v2, joint1, count1, v3, first1, v4, second1, rfl, _⟩ := h
    rfl
  · obtain ⟨G0, O, v1, lengths1, v2, joint1, count1, v3, first1, v4, second1, rfl, S0, h1, h2, h3, h4, res, hm, q⟩ := h
    refine ⟨_, PSs.nox (pss_cons (ps_set (i := 1) sc_joint_block.nd rfl (.inl rfl) (pe_call G_joint_pages_of (hr.mono (by decide)) (by rfl) T.g_joint_pages_of T.F_joint_pages_of.kp T.b_joint_pages_of .nil pass0 (pa_cons (pv 1) (pa_cons (pv 3) (pa_cons (pv 4) pa_nil)))))
      (pss_cons (ps_if (pt_cut (PW.pt (pw_or (pt_cmpR (op_eqD hr.units) (pv 1) (pe_glob (v := (V.str (Str.ofString "parted"))) (by rfl) c_PARTED ⟨_, rfl⟩) (nomark _)) (pw_or (pt_cmpR op_eqI (pv 2) pe_int (nomark _)) (pw_or1 (pt_cut (PW.pt (pw_and (pt_val (pe_ix ix_tup (pv 3) pe_int (fun _ _ => rfl))) (pw_and1 (pt_val (pe_ix ix_tup (pv 4) pe_int (fun _ _ => rfl)))))))))))) (pss_one (ps_ret (pv 1))) pss_nil)
      (pss_cons (ps_if (pt_cut (PW.pt (pw_or (pt_val (pe_ix ix_tup (pv 3) pe_int (fun _ _ => rfl))) (pw_or1 (pt_val (pe_ix ix_tup (pv 4) pe_int (fun _ _ => rfl))))))) (pss_one (ps_ret (pe_glob (v := (V.str (Str.ofString "parted"))) (by rfl) c_PARTED ⟨_, rfl⟩))) pss_nil)
      (pss_one (ps_ret (pe_call G_joint_lines (hr.mono (by decide)) (by rfl) T.g_joint_lines T.F_joint_lines.kp T.b_joint_lines .nil pass0 (pa_cons (pv 0) (pa_cons (pv 1) (pa_cons (pv 2) (pa_cons (pv 3) (pa_cons (pv 4) pa_nil))))))))))), ?_⟩
    have E0 := Ext.refl G0
    have hm0 : (Option.bind (m_joint_pages_of joint1 first1 second1) fun r1 =>
  if ((decide (r1 = (none : (Option ((Wd × Int × Int) × (List Int) × (Wd × Int × Int) × (List Int) × (List (Bool × Int))))))) || ((decide (count1 = (0 : Int))) || (first1.2.2.2.2.2 && second1.2.2.2.2.2))) then (some r1)
  else (if (first1.2.2.2.2.2 || second1.2.2.2.2.2) then (some (none : (Option ((Wd × Int × Int) × (List Int) × (Wd × Int × Int) × (List Int) × (List (Bool × Int))))))
  else (Option.bind (r1) fun j1 =>
  Option.bind (m_joint_lines lengths1 j1 count1 first1 second1) fun r2 =>
  some r2))) = some res := hm
    refine gS_AsgN ?_
    refine gCall ?_
    refine gCons' ?_
    refine gV rfl ?_
    refine gCons' ?_
    refine gV rfl ?_
    refine gCons' ?_
    refine gV rfl ?_
    refine gNil' ?_
    obtain ⟨r1, hq1, hm1⟩ := bindS hm0
    refine ⟨G0, (O), v2, joint1, v3, first1, v4, second1, rfl, S0, h2, h3, h4, r1, hq1, fun v5 G1 H1 e1 S1 h5 => ?_⟩
    have h6 := R.up e1 h1
    have h7 := R.up e1 h2
    have h8 := R.up e1 h3
    have h9 := R.up e1 h4
    have E1 := E0.trans e1
    refine gS_IfS ?_
    refine gCT (fun (b : Bool) (H : Hp) => ∃ (G : Hp), Ext G1 G ∧ Sub G (O) H ∧ b = ((decide (r1 = (none : (Option ((Wd × Int × Int) × (List Int) × (Wd × Int × Int) × (List Int) × (List (Bool × Int))))))) || ((decide (count1 = (0 : Int))) || (first1.2.2.2.2.2 && second1.2.2.2.2.2)))) ?_ ?_
    · skip
      refine gOr ?_
      refine gTest ?_
      refine gOp ?_
      refine gV rfl ?_
      refine gC ?_
      refine q_eqD (dA (Str.ofString "parted") (by decide +kernel) (dP5 (dP3 (dEn (K := K) e_Wd e_Wd_inj e_Wd_ok) (dInt (K := K)) (dInt (K := K))) (dT (dInt (K := K))) (dP3 (dEn (K := K) e_Wd e_Wd_inj e_Wd_ok) (dInt (K := K)) (dInt (K := K))) (dT (dInt (K := K))) (dT (dP2 (dBool (K := K)) (dInt (K := K))))) (fun _ => rfl)) (by show 18 ≤ 64; decide) (R.up S1.ext h5) (R.up S1.ext (rA_none : R.rel (rA (Str.ofString "parted") (rP5 K (rP3 K (rEn e_Wd) rInt rInt) (rT K rInt) (rP3 K (rEn e_Wd) rInt rInt) (rT K rInt) (rT K (rP2 K rBool rInt)))) G1 (V.str (Str.ofString "parted")) none)) ((okA (okP5 (okP3 okEn okI okI) (okT okI) (okP3 okEn okI okI) (okT okI) (okT (okP2 okB okI)))) _) ((okA (okP5 (okP3 okEn okI okI) (okT okI) (okP3 okEn okI okI) (okT okI) (okT (okP2 okB okI)))) _) ?_
      refine ⟨(decide (r1 = (none : (Option ((Wd × Int × Int) × (List Int) × (Wd × Int × Int) × (List Int) × (List (Bool × Int))))))), rfl, ?_⟩
      refine ite2 (fun c2 => ?_) (fun c2 => ?_)
      · skip
        exact ⟨G1, (Ext.refl _), S1, (by rw [c2, Bool.true_or])⟩
      · skip
        refine gOr ?_
        refine gTest ?_
        refine gOp ?_
        refine gV rfl ?_
        refine gC ?_
        refine ⟨_, _, rfl, rfl, ?_⟩
        refine ⟨(decide (count1 = (0 : Int))), rfl, ?_⟩
        refine ite2 (fun c3 => ?_) (fun c3 => ?_)
        · skip
          exact ⟨G1, (Ext.refl _), S1, (by rw [ne_false c2, Bool.false_or, c3, Bool.true_or])⟩
        · skip
          refine gCT (fun (b : Bool) (H : Hp) => ∃ (G : Hp), Ext G1 G ∧ Sub G (O) H ∧ b = (first1.2.2.2.2.2 && second1.2.2.2.2.2)) ?_ ?_
          · skip
            refine gAnd ?_
            refine gB ?_
            refine gOp ?_
            refine gV rfl ?_
            refine gC ?_
            refine q_p6_5 S1 h8 (fun v19 h27 => ?_)
            obtain rfl := (show v19 = (V.bl first1.2.2.2.2.2) from h27)
            refine ⟨first1.2.2.2.2.2, rfl, ?_⟩
            refine ite2 (fun c4 => ?_) (fun c4 => ?_)
            · skip
              refine gB ?_
              refine gOp ?_
              refine gV rfl ?_
              refine gC ?_
              refine q_p6_5 S1 h9 (fun v21 h29 => ?_)
              obtain rfl := (show v21 = (V.bl second1.2.2.2.2.2) from h29)
              refine ⟨second1.2.2.2.2.2, rfl, ?_⟩
              exact ⟨G1, (Ext.refl _), S1, (by rw [c4, Bool.true_and])⟩
            · skip
              exact ⟨G1, (Ext.refl _), S1, (by rw [ne_false c4, Bool.false_and])⟩
          · intro b2 H3 hJ
            obtain ⟨G3, e3, S3, rfl⟩ := hJ
            have h30 := R.up e3 h6
            have h31 := R.up e3 h5
            have h32 := R.up e3 h8
            have h33 := R.up e3 h9
            have E3 := E1.trans e3
            exact ⟨G3, e3, S3, (by rw [ne_false c2, Bool.false_or, ne_false c3, Bool.false_or])⟩
    · intro b3 H4 hJ
      obtain ⟨G4, e4, S4, rfl⟩ := hJ
      have h34 := R.up e4 h6
      have h35 := R.up e4 h5
      have h36 := R.up e4 h8
      have h37 := R.up e4 h9
      have E4 := E1.trans e4
      refine ite2 (fun c5 => ?_) (fun c5 => ?_)
      · skip
        have hm2 := (if_pos c5).symm.trans hm1
        refine gRet ?_
        refine gV rfl ?_
        cases hm2
        exact q v5 G4 H4 E4 S4 h35
      · skip
        have hm3 := (if_neg c5).symm.trans hm1
        refine gNext ?_
        refine gE ?_
        refine gS_IfS ?_
        refine gCT (fun (b : Bool) (H : Hp) => ∃ (G : Hp), Ext G4 G ∧ Sub G (O) H ∧ b = (first1.2.2.2.2.2 || second1.2.2.2.2.2)) ?_ ?_
        · skip
          refine gOr ?_
          refine gB ?_
          refine gOp ?_
          refine gV rfl ?_
          refine gC ?_
          refine q_p6_5 S4 h36 (fun v27 h43 => ?_)
          obtain rfl := (show v27 = (V.bl first1.2.2.2.2.2) from h43)
          refine ⟨first1.2.2.2.2.2, rfl, ?_⟩
          refine ite2 (fun c6 => ?_) (fun c6 => ?_)
          · skip
            exact ⟨G4, (Ext.refl _), S4, (by rw [c6, Bool.true_or])⟩
          · skip
            refine gB ?_
            refine gOp ?_
            refine gV rfl ?_
            refine gC ?_
            refine q_p6_5 S4 h37 (fun v29 h45 => ?_)
            obtain rfl := (show v29 = (V.bl second1.2.2.2.2.2) from h45)
            refine ⟨second1.2.2.2.2.2, rfl, ?_⟩
            exact ⟨G4, (Ext.refl _), S4, (by rw [ne_false c6, Bool.false_or])⟩
        · intro b4 H5 hJ
          obtain ⟨G5, e5, S5, rfl⟩ := hJ
          have h46 := R.up e5 h34
          have h47 := R.up e5 h35
          have h48 := R.up e5 h36
          have h49 := R.up e5 h37
          have E5 := E4.trans e5
          refine ite2 (fun c7 => ?_) (fun c7 => ?_)
          · skip
            have hm4 := (if_pos c7).symm.trans hm3
            refine gRet ?_
            refine gC ?_
            cases hm4
            exact q (V.str (Str.ofString "parted")) G5 H5 E5 S5 (rA_none : R.rel (rA (Str.ofString "parted") (rP5 K (rP3 K (rEn e_Wd) rInt rInt) (rT K rInt) (rP3 K (rEn e_Wd) rInt rInt) (rT K rInt) (rT K (rP2 K rBool rInt)))) G5 (V.str (Str.ofString "parted")) none)
          · skip
            have hm5 := (if_neg c7).symm.trans hm3
            refine gNext ?_
            refine gE ?_
            refine gRet ?_
            refine gCall ?_
            refine gCons' ?_
            refine gV rfl ?_
            refine gCons' ?_
            refine gV rfl ?_
            refine gCons' ?_
            refine gV rfl ?_
            refine gCons' ?_
            refine gV rfl ?_
            refine gCons' ?_
            refine gV rfl ?_
            refine gNil' ?_
            obtain ⟨j1, hq2, hm6⟩ := bindS hm5
            have h50 := rA_get h47 hq2
            obtain ⟨r2, hq3, hm7⟩ := bindS hm6
            refine ⟨G5, (O), v1, lengths1, v5, j1, count1, v3, first1, v4, second1, rfl, S5, h46, h50, h48, h49, r2, hq3, fun v30 G6 H6 e6 S6 h51 => ?_⟩
            have h52 := R.up e6 h46
            have h53 := R.up e6 h47
            have h54 := R.up e6 h48
            have h55 := R.up e6 h49
            have E6 := E5.trans e6
            cases hm7
            exact q v30 G6 H6 E6 S6 h51
end
end Mr

set_option Elab.async false
set_option linter.all false
set_option maxRecDepth 100000
set_option maxHeartbeats 4000000
set_option synthInstance.maxSize 4000
set_option synthInstance.maxHeartbeats 400000
namespace Mr
open PySem PySem.Spec PyProof.Rows L2
section
variable {P : Program} {w : World} {K : PySem.W.Frag} {mg : Str → Option Value} {base : Heap}
theorem sc_alike_at_end : FnScope ["joint", "ahead_one", "ahead_two", "one", "two"] ["joint"] (defScope s_alike_at_end) := ⟨rfl, rfl, rfl, by decide +kernel, rfl, by decide +kernel, by decide +kernel⟩
theorem ok_alike_at_end (T : Tx K mg) : FnOk P w K mg base CX0 3 (He.fAd K ("alike_at_end", none)) T.fd_alike_at_end ["joint"] (sp_alike_at_end K) := by
  have G_matched := ok_matched (P := P) (w := w) (base := base) T
  have G_settled_lists := ok_settled_lists (P := P) (w := w) (base := base) T
  have G_staying := ok_staying (P := P) (w := w) (base := base) T
  obtain ⟨tk_PARTED, c_PARTED⟩ := T.c_PARTED
  refine T.F_alike_at_end.ok sc_alike_at_end (fun vs H Q E h => ?_) (fun cdv A outer s H0 vs Q E hr h => ?_)
  · obtain ⟨G, O, v1, joint1, rfl, _⟩ := h
    rfl
  · obtain ⟨G0, O, v1, joint1, rfl, S0, h1, res, hm, q⟩ := h
    refine ⟨_, PSs.nox (pss_cons (ps_if (pt_cmpR (op_eqD hr.units) (pv 0) (pe_glob (v := (V.str (Str.ofString "parted"))) (by rfl) c_PARTED ⟨_, rfl⟩) (nomark _)) (pss_one (ps_ret pe_bl)) pss_nil)
      (pss_cons (ps_asg (pe_call G_settled_lists (hr.mono (by decide)) (by rfl) T.g_settled_lists T.F_settled_lists.kp T.b_settled_lists .nil pass0 (pa_cons (pe_ix ix_tup (pv 0) pe_int (fun _ _ => rfl)) (pa_cons (pe_ix ix_tup (pv 0) pe_int (fun _ _ => rfl)) (pa_cons (pe_ix ix_tup (pv 0) pe_int (fun _ _ => rfl)) pa_nil)))) (pg_tup rfl (pgs_cons (pg_name (i := 1) sc_alike_at_end.nd rfl (.inl rfl)) (pgs_cons (pg_name (i := 2) sc_alike_at_end.nd rfl (.inl rfl)) pgs_nil))))
      (pss_cons (ps_set (i := 3) sc_alike_at_end.nd rfl (.inl rfl) (pe_op op_cat (pv 1) (pe_call G_staying (hr.mono (by decide)) (by rfl) T.g_staying T.F_staying.kp T.b_staying .nil pass0 (pa_cons (pe_ix ix_tup (pe_ix ix_tup (pv 0) pe_int (fun _ _ => rfl)) pe_int (fun _ _ => rfl)) (pa_cons (pe_ix ix_tup (pv 0) pe_int (fun _ _ => rfl)) pa_nil)))))
      (pss_cons (ps_set (i := 4) sc_alike_at_end.nd rfl (.inl rfl) (pe_op op_cat (pv 2) (pe_call G_staying (hr.mono (by decide)) (by rfl) T.g_staying T.F_staying.kp T.b_staying .nil pass0 (pa_cons (pe_ix ix_tup (pe_ix ix_tup (pv 0) pe_int (fun _ _ => rfl)) pe_int (fun _ _ => rfl)) (pa_cons (pe_ix ix_tup (pv 0) pe_int (fun _ _ => rfl)) pa_nil)))))
      (pss_one (ps_ret (pe_cmpR (op_eqD hr.units) (pe_call G_matched (hr.mono (by decide)) (by rfl) T.g_matched T.F_matched.kp T.b_matched .nil pass0 (pa_cons (pv 3) (pa_cons (pv 4) pa_nil))) (pe_tup pa_nil) (nomark _)))))))), ?_⟩
    have E0 := Ext.refl G0
    have hm0 : (if (decide (joint1 = (none : (Option ((Wd × Int × Int) × (List Int) × (Wd × Int × Int) × (List Int) × (List (Bool × Int))))))) then (some false)
  else (Option.bind (joint1) fun j1 =>
  Option.bind (joint1) fun j2 =>
  Option.bind (joint1) fun j3 =>
  Option.bind (m_settled_lists j1.2.1 j2.2.2.2.1 j3.2.2.2.2) fun r1 =>
  Option.bind (joint1) fun j4 =>
  Option.bind (joint1) fun j5 =>
  Option.bind (m_staying j4.1.2.1 j5.2.1) fun r2 =>
  Option.bind (catM r1.1 r2) fun z1 =>
  Option.bind (joint1) fun j6 =>
  Option.bind (joint1) fun j7 =>
  Option.bind (m_staying j6.2.2.1.2.1 j7.2.2.2.1) fun r3 =>
  Option.bind (catM r1.2 r3) fun z2 =>
  Option.bind (m_matched z1 z2) fun r4 =>
  some (decide (r4 = (some [] : (Option (List (Bool × Int)))))))) = some res := hm
    refine gS_IfS ?_
    refine gTest ?_
    refine gOp ?_
    refine gV rfl ?_
    refine gC ?_
    refine q_eqD (dA (Str.ofString "parted") (by decide +kernel) (dP5 (dP3 (dEn (K := K) e_Wd e_Wd_inj e_Wd_ok) (dInt (K := K)) (dInt (K := K))) (dT (dInt (K := K))) (dP3 (dEn (K := K) e_Wd e_Wd_inj e_Wd_ok) (dInt (K := K)) (dInt (K := K))) (dT (dInt (K := K))) (dT (dP2 (dBool (K := K)) (dInt (K := K))))) (fun _ => rfl)) (by show 18 ≤ 64; decide) (R.up S0.ext h1) (R.up S0.ext (rA_none : R.rel (rA (Str.ofString "parted") (rP5 K (rP3 K (rEn e_Wd) rInt rInt) (rT K rInt) (rP3 K (rEn e_Wd) rInt rInt) (rT K rInt) (rT K (rP2 K rBool rInt)))) G0 (V.str (Str.ofString "parted")) none)) ((okA (okP5 (okP3 okEn okI okI) (okT okI) (okP3 okEn okI okI) (okT okI) (okT (okP2 okB okI)))) _) ((okA (okP5 (okP3 okEn okI okI) (okT okI) (okP3 okEn okI okI) (okT okI) (okT (okP2 okB okI)))) _) ?_
    refine ⟨(decide (joint1 = (none : (Option ((Wd × Int × Int) × (List Int) × (Wd × Int × Int) × (List Int) × (List (Bool × Int))))))), rfl, ?_⟩
    refine ite2 (fun c1 => ?_) (fun c1 => ?_)
    · skip
      have hm1 := (if_pos c1).symm.trans hm0
      refine gRet ?_
      refine gC ?_
      cases hm1
      exact q G0 H0 E0 S0
    · skip
      have hm2 := (if_neg c1).symm.trans hm0
      refine gNext ?_
      refine gE ?_
      refine gS_Asg ?_
      refine gCall ?_
      refine gCons' ?_
      refine gOp ?_
      refine gV rfl ?_
      obtain ⟨j1, hq1, hm3⟩ := bindS hm2
      have h2 := rA_get h1 hq1
      refine gC ?_
      refine q_p5_1 S0 h2 (fun v2 h3 => ?_)
      refine gCons' ?_
      refine gOp ?_
      refine gV rfl ?_
      obtain ⟨j2, hq2, hm4⟩ := bindS hm3
      have h4 := rA_get h1 hq2
      refine gC ?_
      refine q_p5_3 S0 h4 (fun v3 h5 => ?_)
      refine gCons' ?_
      refine gOp ?_
      refine gV rfl ?_
      obtain ⟨j3, hq3, hm5⟩ := bindS hm4
      have h6 := rA_get h1 hq3
      refine gC ?_
      refine q_p5_4 S0 h6 (fun v4 h7 => ?_)
      refine gNil' ?_
      obtain ⟨r1, hq4, hm6⟩ := bindS hm5
      refine ⟨G0, (O), v2, j1.2.1, v3, j2.2.2.2.1, v4, j3.2.2.2.2, rfl, S0, h3, h5, h7, r1, hq4, fun v5 G1 H1 e1 S1 h8 => ?_⟩
      have h9 := R.up e1 h1
      have E1 := E0.trans e1
      refine q_gt2 S1 h8 (fun v6 v7 h10 h11 => ?_)
      refine gS_AsgN ?_
      refine gOp ?_
      refine gV rfl ?_
      refine gCall ?_
      refine gCons' ?_
      refine gOp ?_
      refine gOp ?_
      refine gV rfl ?_
      obtain ⟨j4, hq5, hm7⟩ := bindS hm6
      have h12 := rA_get h9 hq5
      refine gC ?_
      refine q_p5_0 S1 h12 (fun v8 h13 => ?_)
      refine gC ?_
      refine q_p3_1 S1 h13 (fun v9 h14 => ?_)
      obtain rfl := (show v9 = (V.int j4.1.2.1) from h14)
      refine gCons' ?_
      refine gOp ?_
      refine gV rfl ?_
      obtain ⟨j5, hq6, hm8⟩ := bindS hm7
      have h15 := rA_get h9 hq6
      refine gC ?_
      refine q_p5_1 S1 h15 (fun v10 h16 => ?_)
      refine gNil' ?_
      obtain ⟨r2, hq7, hm9⟩ := bindS hm8
      refine ⟨G1, (O), j4.1.2.1, v10, j5.2.1, rfl, S1, h16, r2, hq7, fun v11 G2 H2 e2 S2 h17 => ?_⟩
      have h18 := R.up e2 h9
      have h19 := R.up e2 h10
      have h20 := R.up e2 h11
      have E2 := E1.trans e2
      obtain ⟨z1, hq8, hm10⟩ := bindS hm9
      refine q_cat S2 (ls_M S2 h19) (ls_M S2 h17) hq8 (fun v12 G3 H3 e3 S3 h21 => ?_)
      have h22 := R.up e3 h18
      have h23 := R.up e3 h19
      have h24 := R.up e3 h20
      have E3 := E2.trans e3
      refine gS_AsgN ?_
      refine gOp ?_
      refine gV rfl ?_
      refine gCall ?_
      refine gCons' ?_
      refine gOp ?_
      refine gOp ?_
      refine gV rfl ?_
      obtain ⟨j6, hq9, hm11⟩ := bindS hm10
      have h25 := rA_get h22 hq9
      refine gC ?_
      refine q_p5_2 S3 h25 (fun v13 h26 => ?_)
      refine gC ?_
      refine q_p3_1 S3 h26 (fun v14 h27 => ?_)
      obtain rfl := (show v14 = (V.int j6.2.2.1.2.1) from h27)
      refine gCons' ?_
      refine gOp ?_
      refine gV rfl ?_
      obtain ⟨j7, hq10, hm12⟩ := bindS hm11
      have h28 := rA_get h22 hq10
      refine gC ?_
      refine q_p5_3 S3 h28 (fun v15 h29 => ?_)
      refine gNil' ?_
      obtain ⟨r3, hq11, hm13⟩ := bindS hm12
      refine ⟨G3, (O), j6.2.2.1.2.1, v15, j7.2.2.2.1, rfl, S3, h29, r3, hq11, fun v16 G4 H4 e4 S4 h30 => ?_⟩
      have h31 := R.up e4 h22
      have h32 := R.up e4 h23
      have h33 := R.up e4 h24
      have h34 := R.up e4 h21
      have E4 := E3.trans e4
      obtain ⟨z2, hq12, hm14⟩ := bindS hm13
      refine q_cat S4 (ls_M S4 h33) (ls_M S4 h30) hq12 (fun v17 G5 H5 e5 S5 h35 => ?_)
      have h36 := R.up e5 h31
      have h37 := R.up e5 h32
      have h38 := R.up e5 h33
      have h39 := R.up e5 h34
      have E5 := E4.trans e5
      refine gRet ?_
      refine gOp ?_
      refine gCall ?_
      refine gCons' ?_
      refine gV rfl ?_
      refine gCons' ?_
      refine gV rfl ?_
      refine gNil' ?_
      obtain ⟨r4, hq13, hm15⟩ := bindS hm14
      refine ⟨G5, (O), v12, z1, v17, z2, rfl, S5, h39, h35, r4, hq13, fun v18 G6 H6 e6 S6 h40 => ?_⟩
      have h41 := R.up e6 h36
      have h42 := R.up e6 h37
      have h43 := R.up e6 h38
      have h44 := R.up e6 h39
      have h45 := R.up e6 h35
      have E6 := E5.trans e6
      refine gTup' ?_
      refine gNil' ?_
      refine ⟨sz0, fun p1 np1 => ?_⟩
      have S7 : Sub G6 (O) (upd H6 p1 (.tup [])) := S6.junk np1
      refine q_eqD (dO (dT (dP2 (dBool (K := K)) (dInt (K := K)))) (fun _ => rfl)) (by show 5 ≤ 64; decide) (R.up S7.ext h40) (rO_some (nn_T (⟨p1, [], rfl, .inl (.inl upd_same), True.intro⟩ : R.rel (rT K (rP2 K rBool rInt)) (upd H6 p1 (.tup [])) (V.ref p1) [])) (⟨p1, [], rfl, .inl (.inl upd_same), True.intro⟩ : R.rel (rT K (rP2 K rBool rInt)) (upd H6 p1 (.tup [])) (V.ref p1) [])) ((okO (okT (okP2 okB okI))) _) ((okO (okT (okP2 okB okI))) _) ?_
      cases hm15
      exact q G6 (upd H6 p1 (.tup [])) E6 S7
end
end Mr

set_option Elab.async false
set_option linter.all false
set_option maxRecDepth 100000
set_option maxHeartbeats 4000000
set_option synthInstance.maxSize 4000
set_option synthInstance.maxHeartbeats 400000
namespace Mr
open PySem PySem.Spec PyProof.Rows L2
section
variable {P : Program} {w : World} {K : PySem.W.Frag} {mg : Str → Option Value} {base : Heap}
theorem sc_law_bag : FnScope ["_law_script", "_law_at", "_law_great", "_law_mixed", "_law_place", "_law_cell"] ["_law_script", "_law_at"] (defScope s_law_bag) := ⟨rfl, rfl, rfl, by decide +kernel, rfl, by decide +kernel, by decide +kernel⟩
theorem ok_law_bag (T : Tx K mg) : FnOk P w K mg base CX0 1 (He.fAd K ("_law_bag", none)) T.fd_law_bag ["_law_script", "_law_at"] (sp_law_bag K) := by
  refine T.F_law_bag.ok sc_law_bag (fun vs H Q E h => ?_) (fun cdv A outer s H0 vs Q E hr h => ?_)
  · obtain ⟨G, O, v1, script1, at1, rfl, _⟩ := h
    rfl
  · obtain ⟨G0, O, v1, script1, at1, rfl, S0, h1, res, hm, q⟩ := h
    refine ⟨_, PSs.nox (pss_cons (ps_set (i := 2) sc_law_bag.nd rfl (.inl rfl) (pe_cut (pe_ifExp (pt_cmpR op_lt (pv 1) (pe_callB call_lenM (by rfl) T.z_len boot_len (pa_cons (pv 0) pa_nil)) (nomark _)) (pe_callB call_abs (by rfl) T.z_abs boot_abs (pa_cons (pe_callTy call_int1 (by rfl) T.z_int boot_int (pa_cons (pe_ix ix_list (pv 0) (pv 1) (fun _ _ => rfl)) pa_nil)) pa_nil)) pe_int)))
      (pss_cons (ps_set (i := 3) sc_law_bag.nd rfl (.inl rfl) (pe_op op_add pe_int (pe_op op_mul pe_int (pv 1))))
      (pss_cons (ps_cut (ps_for PassesOwn.never rfl (pi_enumQ (by rfl) T.z_enumerate (pa_cons (pe_slice sl_list (pv 0) po_none (po_some pe_int)) pa_nil)) (pg_tup rfl (pgs_cons (pg_name (i := 4) sc_law_bag.nd rfl (.inl rfl)) (pgs_cons (pg_name (i := 5) sc_law_bag.nd rfl (.inl rfl)) pgs_nil)))
      (pss_one (ps_set (i := 3) sc_law_bag.nd rfl (.inl rfl) (pe_op op_mod (pe_callTy call_int1 (by rfl) T.z_int boot_int (pa_cons (pe_op op_add (pe_op op_add (pe_op op_mul (pv 3) pe_int) (pe_op op_mod (pe_callTy call_int1 (by rfl) T.z_int boot_int (pa_cons (pv 5) pa_nil)) pe_int)) (pe_op op_mul pe_int (pv 4))) pa_nil)) pe_int)))))
      (pss_one (ps_ret (pe_lst (pa_cons (pe_cut (pe_ifExp (pt_cmpR op_ge (pv 2) (pe_op op_pow pe_int pe_int) (nomark _)) (pv 2) pe_int)) (pa_cons (pv 3) (pa_cons pe_int pa_nil))))))))), ?_⟩
    have E0 := Ext.refl G0
    have hm0 : (Option.bind (if (decide (at1 < (script1.length : Int))) then (Option.bind (getM script1 at1) fun x1 =>
  some (if x1 < 0 then -x1 else x1)) else (some (0 : Int))) fun x2 =>
  Option.bind (folM (m_law_bag_b1) (enumM (cutM script1 none (some (63 : Int)))) ((1009 : Int) + ((77 : Int) * at1))) fun mixed1 =>
  some ([(if (decide (x2 ≥ ((10 : Int) ^ (18 : Int).toNat))) then x2 else (0 : Int)), mixed1, (0 : Int)] : List Int)) = some res := hm
    refine gS_AsgN ?_
    obtain ⟨x2, hq2, hm2⟩ := bindS hm0
    refine gCE (fun (v : V) (H : Hp) => ∃ (G : Hp), Ext G0 G ∧ Sub G (O) H ∧ v = (V.int x2)) ?_ ?_
    · skip
      refine gIf ?_
      refine gTest ?_
      refine gOp ?_
      refine gV rfl ?_
      refine gCB ?_
      refine gCons' ?_
      refine gV rfl ?_
      refine gNil' ?_
      refine q_lenL (y := V.non) S0 h1 ?_
      refine ⟨_, _, rfl, rfl, ?_⟩
      refine ⟨(decide (at1 < (script1.length : Int))), rfl, ?_⟩
      refine ite2 (fun c1 => ?_) (fun c1 => ?_)
      · skip
        have hm3 := (if_pos c1).symm.trans hq2
        refine gCB ?_
        refine gCons' ?_
        refine gCB ?_
        refine gCons' ?_
        refine gOp ?_
        refine gV rfl ?_
        refine gV rfl ?_
        obtain ⟨x3, hq3, hm4⟩ := bindS hm3
        refine q_ixL S0 h1 hq3 (fun v3 h3 => ?_)
        obtain rfl := (show v3 = (V.int x3) from h3)
        refine gNil' ?_
        refine .inl ⟨_, rfl, ?_⟩
        refine gNil' ?_
        refine ⟨_, rfl, ?_⟩
        cases hm4
        exact ⟨G0, (Ext.refl _), S0, rfl⟩
      · skip
        have hm5 := (if_neg c1).symm.trans hq2
        refine gC ?_
        cases hm5
        exact ⟨G0, (Ext.refl _), S0, rfl⟩
    · intro v4 H1 hJ
      obtain ⟨G1, e1, S1, rfl⟩ := hJ
      have h5 := R.up e1 h1
      have E1 := E0.trans e1
      refine gS_AsgN ?_
      refine gOp ?_
      refine gC ?_
      refine gOp ?_
      refine gC ?_
      refine gV rfl ?_
      refine ⟨_, _, rfl, rfl, .inl ⟨by decide, by decide⟩, ?_⟩
      refine ⟨_, _, rfl, rfl, ?_⟩
      obtain ⟨mixed1, hl1, hm6⟩ := bindS hm2
      refine gS_CS (fun (σ : L2.St) (H : Hp) => ∃ (G : Hp) (y1 : Option V) (y2 : Option V), Ext G1 G ∧ Sub G (O) H ∧ σ = [some v1, some (V.int at1), some (V.int x2), some (V.int mixed1), y1, y2]) ?_ ?_
      · skip
        refine gFor ?_
        refine gIE ?_
        refine gCons' ?_
        refine gSl ?_
        refine gV rfl ?_
        refine gNoPart ?_
        refine gPart ?_
        refine gC ?_
        refine ⟨_, rfl, ?_⟩
        refine q_slM S1 h5 (fun v5 G2 H2 e2 S2 h6 => ?_)
        have h7 := R.up e2 h5
        have E2 := E1.trans e2
        refine gNil' ?_
        refine lp_EQ (r := rInt) S2 (rM_Q (K := K) h6) (fol_for Empty hl1) (fun (s : Int) (σ : L2.St) (H : Hp) => ∃ (G : Hp) (y1 : Option V) (y2 : Option V), Ext G2 G ∧ Sub G (O) H ∧ σ = [some v1, some (V.int at1), some (V.int x2), some (V.int s), y1, y2]) ⟨G2, _, _, (Ext.refl _), S2, rfl⟩ ?_ ?_ ?_
        · intro s σ H hI
          obtain ⟨G, k1, k2, ie, iS, _⟩ := hI
          exact ie.trans iS.ext
        · intro i1 x4 mixed2 b1 hb1 hr1 v6 σ1 H3 H4 hI1 hS1 h8
          obtain ⟨s2, hb2, hb3⟩ := goF_some hb1
          subst hb3
          obtain ⟨G3, y3, y4, e3, S3, rfl⟩ := hI1
          have h9 := R.up e3 h7
          have h10 := R.up e3 h6
          have E3 := E2.trans e3
          have S4 := hS1 _ _ S3
          generalize ((i1 : Nat) : Int) = k3 at hb2 ⊢
          obtain rfl := (show v6 = (V.int x4) from h8)
          have hm7 : (some ((((mixed2 * (16807 : Int)) + (x4 % (2147483629 : Int))) + ((13 : Int) * k3)) % (2147483647 : Int))) = some s2 := hb2
          refine gAsgN ?_
          refine gOp ?_
          refine gCB ?_
          refine gCons' ?_
          refine gOp ?_
          refine gOp ?_
          refine gOp ?_
          refine gV rfl ?_
          refine gC ?_
          refine ⟨_, _, rfl, rfl, .inr ⟨by decide, by decide⟩, ?_⟩
          refine gOp ?_
          refine gCB ?_
          refine gCons' ?_
          refine gV rfl ?_
          refine gNil' ?_
          refine .inl ⟨_, rfl, ?_⟩
          refine gC ?_
          refine ⟨_, _, rfl, rfl, (by show (0 : Int) < 2147483629; decide), ?_⟩
          refine ⟨_, _, rfl, rfl, ?_⟩
          refine gOp ?_
          refine gC ?_
          refine gV rfl ?_
          refine ⟨_, _, rfl, rfl, .inl ⟨by decide, by decide⟩, ?_⟩
          refine ⟨_, _, rfl, rfl, ?_⟩
          refine gNil' ?_
          refine .inl ⟨_, rfl, ?_⟩
          refine gC ?_
          refine ⟨_, _, rfl, rfl, (by show (0 : Int) < 2147483647; decide), ?_⟩
          cases hm7
          exact ⟨_, ⟨G3, _, _, e3, S4, rfl⟩, hr1⟩
        · intro s σ H h1 h2
          cases h1
          obtain ⟨G, k1, k2, ie, irest⟩ := h2
          exact ⟨G, k1, k2, (e2.trans ie), irest⟩
      · intro σ2 H5 hJ1
        obtain ⟨G4, y5, y6, e4, S5, rfl⟩ := hJ1
        have h11 := R.up e4 h5
        have E4 := E1.trans e4
        refine gRet ?_
        refine gLst ?_
        refine gCons' ?_
        refine gCE (fun (v : V) (H : Hp) => ∃ (G : Hp), Ext G4 G ∧ Sub G (O) H ∧ v = (V.int (if (decide (x2 ≥ ((10 : Int) ^ (18 : Int).toNat))) then x2 else (0 : Int)))) ?_ ?_
        · skip
          refine gIf ?_
          refine gTest ?_
          refine gOp ?_
          refine gV rfl ?_
          refine gOp ?_
          refine gC ?_
          refine gC ?_
          refine ⟨_, _, rfl, rfl, ⟨by decide, by decide, by decide⟩, ?_⟩
          refine ⟨_, _, rfl, rfl, ?_⟩
          refine ⟨(decide (x2 ≥ ((10 : Int) ^ (18 : Int).toNat))), rfl, ?_⟩
          refine ite2 (fun c2 => ?_) (fun c2 => ?_)
          · skip
            refine gV rfl ?_
            exact ⟨G4, (Ext.refl _), S5, congrArg V.int (if_pos c2).symm⟩
          · skip
            refine gC ?_
            exact ⟨G4, (Ext.refl _), S5, congrArg V.int (if_neg c2).symm⟩
        · intro v7 H6 hJ
          obtain ⟨G5, e5, S6, rfl⟩ := hJ
          have h13 := R.up e5 h11
          have E5 := E4.trans e5
          refine gCons' ?_
          refine gV rfl ?_
          refine gCons' ?_
          refine gC ?_
          refine gNil' ?_
          have h14 : Al rInt G5 [(V.int (if (decide (x2 ≥ ((10 : Int) ^ (18 : Int).toNat))) then x2 else (0 : Int))), (V.int mixed1), (V.int (0 : Int))] [(if (decide (x2 ≥ ((10 : Int) ^ (18 : Int).toNat))) then x2 else (0 : Int)), mixed1, (0 : Int)] := ⟨rfl, rfl, rfl, True.intro⟩
          refine q_lst S6 h14 (by show 3 ≤ 100000; decide) (fun a1 H7 w1 S7 h15 => ?_)
          cases hm6
          exact q a1 w1 G5 H7 E5 S7 h15
end
end Mr

set_option Elab.async false
set_option linter.all false
set_option maxRecDepth 100000
set_option maxHeartbeats 4000000
set_option synthInstance.maxSize 4000
set_option synthInstance.maxHeartbeats 400000
namespace Mr
open PySem PySem.Spec PyProof.Rows L2
section
variable {P : Program} {w : World} {K : PySem.W.Frag} {mg : Str → Option Value} {base : Heap}
theorem sc_law_draw : FnScope ["_law_bag_here", "_law_many", "_law_digit"] ["_law_bag_here", "_law_many"] (defScope s_law_draw) := ⟨rfl, rfl, rfl, by decide +kernel, rfl, by decide +kernel, by decide +kernel⟩
theorem ok_law_draw (T : Tx K mg) : FnOk P w K mg base CX0 1 (He.fAd K ("_law_draw", none)) T.fd_law_draw ["_law_bag_here", "_law_many"] (sp_law_draw K) := by
  refine T.F_law_draw.ok sc_law_draw (fun vs H Q E h => ?_) (fun cdv A outer s H0 vs Q E hr h => ?_)
  · obtain ⟨G, O, a1, w1, bag_here1, many1, rfl, _⟩ := h
    rfl
  · obtain ⟨G0, O, a1, w1, bag_here1, many1, rfl, S0, h1, res, hm, q⟩ := h
    refine ⟨_, PSs.nox (pss_cons (ps_if (pt_cmpR op_gt (pe_ix ix_list (pv 0) pe_int (fun _ _ => rfl)) pe_int (nomark _)) (pss_cons (ps_set (i := 2) sc_law_draw.nd rfl (.inl rfl) (pe_op op_mod (pe_callTy call_int1 (by rfl) T.z_int boot_int (pa_cons (pe_ix ix_list (pv 0) pe_int (fun _ _ => rfl)) pa_nil)) (pv 1)))
      (pss_cons (ps_asg (pe_op op_fdivW (pe_ix ix_list (pv 0) pe_int (fun _ _ => rfl)) (pv 1)) (pg_sub (pv 0) pe_int set_list))
      (pss_one (ps_ret (pv 2))))) pss_nil)
      (pss_cons (ps_asg (pe_op op_add (pe_ix ix_list (pv 0) pe_int (fun _ _ => rfl)) pe_int) (pg_sub (pv 0) pe_int set_list))
      (pss_cons (ps_asg (pe_op op_mod (pe_callTy call_int1 (by rfl) T.z_int boot_int (pa_cons (pe_op op_add (pe_op op_add (pe_op op_mul (pe_ix ix_list (pv 0) pe_int (fun _ _ => rfl)) pe_int) (pe_op op_mul pe_int (pe_ix ix_list (pv 0) pe_int (fun _ _ => rfl)))) pe_int) pa_nil)) pe_int) (pg_sub (pv 0) pe_int set_list))
      (pss_one (ps_ret (pe_op op_mod (pe_op op_fdivW (pe_callTy call_int1 (by rfl) T.z_int boot_int (pa_cons (pe_op op_mod (pe_callTy call_int1 (by rfl) T.z_int boot_int (pa_cons (pe_op op_add (pe_op op_mul (pe_ix ix_list (pv 0) pe_int (fun _ _ => rfl)) pe_int) (pe_op op_mul pe_int (pe_ix ix_list (pv 0) pe_int (fun _ _ => rfl)))) pa_nil)) pe_int) pa_nil)) pe_int) (pv 1))))))), ?_⟩
    have E0 := Ext.refl G0
    have hm0 : (Option.bind (getM bag_here1 (0 : Int)) fun x1 =>
  if (decide (x1 > (0 : Int))) then (Option.bind (getM bag_here1 (0 : Int)) fun x2 =>
  Option.bind (modM x2 many1) fun x3 =>
  Option.bind (getM bag_here1 (0 : Int)) fun x4 =>
  Option.bind (fdivM x4 many1) fun x5 =>
  Option.bind (setM bag_here1 (0 : Int) x5) fun bag_here2 =>
  some (x3, bag_here2))
  else (Option.bind (getM bag_here1 (2 : Int)) fun x6 =>
  Option.bind (setM bag_here1 (2 : Int) (x6 + (1 : Int))) fun bag_here3 =>
  Option.bind (getM bag_here3 (1 : Int)) fun x7 =>
  Option.bind (getM bag_here3 (2 : Int)) fun x8 =>
  Option.bind (setM bag_here3 (1 : Int) ((((x7 * (48271 : Int)) + ((11 : Int) * x8)) + (7 : Int)) % (2147483647 : Int))) fun bag_here4 =>
  Option.bind (getM bag_here4 (1 : Int)) fun x9 =>
  Option.bind (getM bag_here4 (2 : Int)) fun x10 =>
  Option.bind (modM ((((x9 * (69621 : Int)) + ((4099 : Int) * x10)) % (2147483629 : Int)) / (128 : Int)) many1) fun x11 =>
  some (x11, bag_here4))) = some res := hm
    refine gS_IfS ?_
    refine gTest ?_
    refine gOp ?_
    refine gOp ?_
    refine gV rfl ?_
    refine gC ?_
    obtain ⟨x1, hq1, hm1⟩ := bindS hm0
    refine q_ixO S0 h1 hq1 (fun v1 h2 => ?_)
    obtain rfl := (show v1 = (V.int x1) from h2)
    refine gC ?_
    refine ⟨_, _, rfl, rfl, ?_⟩
    refine ⟨(decide (x1 > (0 : Int))), rfl, ?_⟩
    refine ite2 (fun c1 => ?_) (fun c1 => ?_)
    · skip
      have hm2 := (if_pos c1).symm.trans hm1
      refine gS_AsgN ?_
      refine gOp ?_
      refine gCB ?_
      refine gCons' ?_
      refine gOp ?_
      refine gV rfl ?_
      refine gC ?_
      obtain ⟨x2, hq2, hm3⟩ := bindS hm2
      refine q_ixO S0 h1 hq2 (fun v2 h3 => ?_)
      obtain rfl := (show v2 = (V.int x2) from h3)
      refine gNil' ?_
      refine .inl ⟨_, rfl, ?_⟩
      refine gV rfl ?_
      obtain ⟨x3, hq3, hm4⟩ := bindS hm3
      refine q_mod hq3 ?_
      refine gS_Asg ?_
      refine gOp ?_
      refine gOp ?_
      refine gV rfl ?_
      refine gC ?_
      obtain ⟨x4, hq4, hm5⟩ := bindS hm4
      refine q_ixO S0 h1 hq4 (fun v3 h4 => ?_)
      obtain rfl := (show v3 = (V.int x4) from h4)
      refine gV rfl ?_
      obtain ⟨x5, hq5, hm6⟩ := bindS hm5
      refine q_fdiv hq5 ?_
      refine gSub' ?_
      refine gV rfl ?_
      refine gC ?_
      obtain ⟨bag_here2, hq6, hm7⟩ := bindS hm6
      refine q_setL S0 h1 (show R.rel rInt G0 (V.int x5) x5 from rfl) hq6 (fun H1 w2 S1 h5 => ?_)
      refine gRet ?_
      refine gV rfl ?_
      cases hm7
      exact q G0 H1 w2 E0 S1 h5
    · skip
      have hm8 := (if_neg c1).symm.trans hm1
      refine gNext ?_
      refine gE ?_
      refine gS_Asg ?_
      refine gOp ?_
      refine gOp ?_
      refine gV rfl ?_
      refine gC ?_
      obtain ⟨x6, hq7, hm9⟩ := bindS hm8
      refine q_ixO S0 h1 hq7 (fun v4 h6 => ?_)
      obtain rfl := (show v4 = (V.int x6) from h6)
      refine gC ?_
      refine ⟨_, _, rfl, rfl, ?_⟩
      refine gSub' ?_
      refine gV rfl ?_
      refine gC ?_
      obtain ⟨bag_here3, hq8, hm10⟩ := bindS hm9
      refine q_setL S0 h1 (show R.rel rInt G0 (V.int (x6 + (1 : Int))) (x6 + (1 : Int)) from rfl) hq8 (fun H2 w3 S2 h7 => ?_)
      refine gS_Asg ?_
      refine gOp ?_
      refine gCB ?_
      refine gCons' ?_
      refine gOp ?_
      refine gOp ?_
      refine gOp ?_
      refine gOp ?_
      refine gV rfl ?_
      refine gC ?_
      obtain ⟨x7, hq9, hm11⟩ := bindS hm10
      refine q_ixO S2 h7 hq9 (fun v5 h8 => ?_)
      obtain rfl := (show v5 = (V.int x7) from h8)
      refine gC ?_
      refine ⟨_, _, rfl, rfl, .inr ⟨by decide, by decide⟩, ?_⟩
      refine gOp ?_
      refine gC ?_
      refine gOp ?_
      refine gV rfl ?_
      refine gC ?_
      obtain ⟨x8, hq10, hm12⟩ := bindS hm11
      refine q_ixO S2 h7 hq10 (fun v6 h9 => ?_)
      obtain rfl := (show v6 = (V.int x8) from h9)
      refine ⟨_, _, rfl, rfl, .inl ⟨by decide, by decide⟩, ?_⟩
      refine ⟨_, _, rfl, rfl, ?_⟩
      refine gC ?_
      refine ⟨_, _, rfl, rfl, ?_⟩
      refine gNil' ?_
      refine .inl ⟨_, rfl, ?_⟩
      refine gC ?_
      refine ⟨_, _, rfl, rfl, (by show (0 : Int) < 2147483647; decide), ?_⟩
      refine gSub' ?_
      refine gV rfl ?_
      refine gC ?_
      obtain ⟨bag_here4, hq11, hm13⟩ := bindS hm12
      refine q_setL S2 h7 (show R.rel rInt G0 (V.int ((((x7 * (48271 : Int)) + ((11 : Int) * x8)) + (7 : Int)) % (2147483647 : Int))) ((((x7 * (48271 : Int)) + ((11 : Int) * x8)) + (7 : Int)) % (2147483647 : Int)) from rfl) hq11 (fun H3 w4 S3 h10 => ?_)
      refine gRet ?_
      refine gOp ?_
      refine gOp ?_
      refine gCB ?_
      refine gCons' ?_
      refine gOp ?_
      refine gCB ?_
      refine gCons' ?_
      refine gOp ?_
      refine gOp ?_
      refine gOp ?_
      refine gV rfl ?_
      refine gC ?_
      obtain ⟨x9, hq12, hm14⟩ := bindS hm13
      refine q_ixO S3 h10 hq12 (fun v7 h11 => ?_)
      obtain rfl := (show v7 = (V.int x9) from h11)
      refine gC ?_
      refine ⟨_, _, rfl, rfl, .inr ⟨by decide, by decide⟩, ?_⟩
      refine gOp ?_
      refine gC ?_
      refine gOp ?_
      refine gV rfl ?_
      refine gC ?_
      obtain ⟨x10, hq13, hm15⟩ := bindS hm14
      refine q_ixO S3 h10 hq13 (fun v8 h12 => ?_)
      obtain rfl := (show v8 = (V.int x10) from h12)
      refine ⟨_, _, rfl, rfl, .inl ⟨by decide, by decide⟩, ?_⟩
      refine ⟨_, _, rfl, rfl, ?_⟩
      refine gNil' ?_
      refine .inl ⟨_, rfl, ?_⟩
      refine gC ?_
      refine ⟨_, _, rfl, rfl, (by show (0 : Int) < 2147483629; decide), ?_⟩
      refine gNil' ?_
      refine .inl ⟨_, rfl, ?_⟩
      refine gC ?_
      refine ⟨_, _, rfl, rfl, ⟨by decide, by decide⟩, ?_⟩
      refine gV rfl ?_
      obtain ⟨x11, hq14, hm16⟩ := bindS hm15
      refine q_mod hq14 ?_
      cases hm16
      exact q G0 H3 w4 E0 S3 h10
end
end Mr

set_option Elab.async false
set_option linter.all false
set_option maxRecDepth 100000
set_option maxHeartbeats 4000000
set_option synthInstance.maxSize 4000
set_option synthInstance.maxHeartbeats 400000
namespace Mr
open PySem PySem.Spec PyProof.Rows L2
section
variable {P : Program} {w : World} {K : PySem.W.Frag} {mg : Str → Option Value} {base : Heap}
theorem sc_law_values : FnScope ["_law_bag_here", "_law_space", "_law_kept", "_law_page"] ["_law_bag_here"] (defScope s_law_values) := ⟨rfl, rfl, rfl, by decide +kernel, rfl, by decide +kernel, by decide +kernel⟩
theorem ok_law_values (T : Tx K mg) : FnOk P w K mg base CX0 2 (He.fAd K ("_law_values", none)) T.fd_law_values ["_law_bag_here"] (sp_law_values K) := by
  have G_law_draw := ok_law_draw (P := P) (w := w) (base := base) T
  refine T.F_law_values.ok sc_law_values (fun vs H Q E h => ?_) (fun cdv A outer s H0 vs Q E hr h => ?_)
  · obtain ⟨G, O, a1, w1, bag_here1, rfl, _⟩ := h
    rfl
  · obtain ⟨G0, O, a1, w1, bag_here1, rfl, S0, h1, res, hm, q⟩ := h
    refine ⟨_, PSs.nox (pss_cons (ps_par3 (i := 1) (j := 2) (l := 3) (by rfl) sc_law_values.nd rfl rfl rfl (by decide) (by decide) (by decide) rfl rfl rfl (pa_cons (pe_call G_law_draw (hr.mono (by decide)) (by rfl) T.g_law_draw T.F_law_draw.kp T.b_law_draw .nil pass0 (pa_cons (pv 0) (pa_cons pe_int pa_nil))) (pa_cons (pe_cmpR op_eqI (pe_call G_law_draw (hr.mono (by decide)) (by rfl) T.g_law_draw T.F_law_draw.kp T.b_law_draw .nil pass0 (pa_cons (pv 0) (pa_cons pe_int pa_nil))) pe_int (nomark _)) (pa_cons (pe_cmpR op_eqI (pe_call G_law_draw (hr.mono (by decide)) (by rfl) T.g_law_draw T.F_law_draw.kp T.b_law_draw .nil pass0 (pa_cons (pv 0) (pa_cons pe_int pa_nil))) pe_int (nomark _)) pa_nil))) (by rfl))
      (pss_one (ps_ret (pe_tup (pa_cons pe_int (pa_cons (pe_op op_add pe_int (pe_call G_law_draw (hr.mono (by decide)) (by rfl) T.g_law_draw T.F_law_draw.kp T.b_law_draw .nil pass0 (pa_cons (pv 0) (pa_cons pe_int pa_nil)))) (pa_cons (pv 1) (pa_cons (pv 2) (pa_cons (pv 3) (pa_cons (pe_cmpR op_eqI (pe_call G_law_draw (hr.mono (by decide)) (by rfl) T.g_law_draw T.F_law_draw.kp T.b_law_draw .nil pass0 (pa_cons (pv 0) (pa_cons pe_int pa_nil))) pe_int (nomark _)) pa_nil)))))))))), ?_⟩
    have E0 := Ext.refl G0
    have hm0 : (Option.bind (m_law_draw bag_here1 (3 : Int)) fun (r1, bag_here2) =>
  Option.bind (m_law_draw bag_here2 (2 : Int)) fun (r2, bag_here3) =>
  Option.bind (m_law_draw bag_here3 (8 : Int)) fun (r3, bag_here4) =>
  Option.bind (m_law_draw bag_here4 (3 : Int)) fun (r4, bag_here5) =>
  Option.bind (m_law_draw bag_here5 (12 : Int)) fun (r5, bag_here6) =>
  some (((0 : Int), ((1 : Int) + r4), r1, (decide (r2 = (1 : Int))), (decide (r3 = (1 : Int))), (decide (r5 = (1 : Int)))), bag_here6)) = some res := hm
    refine gS_Par3 ?_
    refine gCons' ?_
    refine gCall ?_
    refine gCons' ?_
    refine gV rfl ?_
    refine gCons' ?_
    refine gC ?_
    refine gNil' ?_
    obtain ⟨⟨r1, bag_here2⟩, hq1, hm1⟩ := bindS hm0
    dsimp only at hm1
    refine ⟨G0, (O), a1, w1, bag_here1, (3 : Int), rfl, S0, h1, (r1, bag_here2), hq1, fun G1 H1 w2 e1 S1 h2 => ?_⟩
    have E1 := E0.trans e1
    refine gCons' ?_
    refine gOp ?_
    refine gCall ?_
    refine gCons' ?_
    refine gV rfl ?_
    refine gCons' ?_
    refine gC ?_
    refine gNil' ?_
    obtain ⟨⟨r2, bag_here3⟩, hq2, hm2⟩ := bindS hm1
    dsimp only at hm2
    refine ⟨G1, (O), a1, w2, bag_here2, (2 : Int), rfl, S1, h2, (r2, bag_here3), hq2, fun G2 H2 w3 e2 S2 h3 => ?_⟩
    have E2 := E1.trans e2
    refine gC ?_
    refine ⟨_, _, rfl, rfl, ?_⟩
    refine gCons' ?_
    refine gOp ?_
    refine gCall ?_
    refine gCons' ?_
    refine gV rfl ?_
    refine gCons' ?_
    refine gC ?_
    refine gNil' ?_
    obtain ⟨⟨r3, bag_here4⟩, hq3, hm3⟩ := bindS hm2
    dsimp only at hm3
    refine ⟨G2, (O), a1, w3, bag_here3, (8 : Int), rfl, S2, h3, (r3, bag_here4), hq3, fun G3 H3 w4 e3 S3 h4 => ?_⟩
    have E3 := E2.trans e3
    refine gC ?_
    refine ⟨_, _, rfl, rfl, ?_⟩
    refine gNil' ?_
    refine ⟨_, _, _, rfl, ?_⟩
    refine gRet ?_
    refine gTup' ?_
    refine gCons' ?_
    refine gC ?_
    refine gCons' ?_
    refine gOp ?_
    refine gC ?_
    refine gCall ?_
    refine gCons' ?_
    refine gV rfl ?_
    refine gCons' ?_
    refine gC ?_
    refine gNil' ?_
    obtain ⟨⟨r4, bag_here5⟩, hq4, hm4⟩ := bindS hm3
    dsimp only at hm4
    refine ⟨G3, (O), a1, w4, bag_here4, (3 : Int), rfl, S3, h4, (r4, bag_here5), hq4, fun G4 H4 w5 e4 S4 h5 => ?_⟩
    have E4 := E3.trans e4
    refine ⟨_, _, rfl, rfl, ?_⟩
    refine gCons' ?_
    refine gV rfl ?_
    refine gCons' ?_
    refine gV rfl ?_
    refine gCons' ?_
    refine gV rfl ?_
    refine gCons' ?_
    refine gOp ?_
    refine gCall ?_
    refine gCons' ?_
    refine gV rfl ?_
    refine gCons' ?_
    refine gC ?_
    refine gNil' ?_
    obtain ⟨⟨r5, bag_here6⟩, hq5, hm5⟩ := bindS hm4
    dsimp only at hm5
    refine ⟨G4, (O), a1, w5, bag_here5, (12 : Int), rfl, S4, h5, (r5, bag_here6), hq5, fun G5 H5 w6 e5 S5 h6 => ?_⟩
    have E5 := E4.trans e5
    refine gC ?_
    refine ⟨_, _, rfl, rfl, ?_⟩
    refine gNil' ?_
    refine q_tup6 (K := K) S5 (show R.rel rInt G5 (V.int (0 : Int)) (0 : Int) from rfl) (show R.rel rInt G5 (V.int ((1 : Int) + r4)) ((1 : Int) + r4) from rfl) (show R.rel rInt G5 (V.int r1) r1 from rfl) (show R.rel rBool G5 (V.bl (decide (r2 = (1 : Int)))) (decide (r2 = (1 : Int))) from rfl) (show R.rel rBool G5 (V.bl (decide (r3 = (1 : Int)))) (decide (r3 = (1 : Int))) from rfl) (show R.rel rBool G5 (V.bl (decide (r5 = (1 : Int)))) (decide (r5 = (1 : Int))) from rfl) (fun v1 G6 H6 e6 S6 h7 => ?_)
    have h8 := Al.up e6 h6
    have E6 := E5.trans e6
    cases hm5
    exact q v1 G6 H6 w6 E6 S6 h7 h8
end
end Mr

set_option Elab.async false
set_option linter.all false
set_option maxRecDepth 100000
set_option maxHeartbeats 4000000
set_option synthInstance.maxSize 4000
set_option synthInstance.maxHeartbeats 400000
namespace Mr
open PySem PySem.Spec PyProof.Rows L2
section
variable {P : Program} {w : World} {K : PySem.W.Frag} {mg : Str → Option Value} {base : Heap}
theorem sc_law_row : FnScope ["_law_bag_here", "_law_many", "_law_row_here", "_law_alike", "_law_turn", "_law_count", "_law_first", "_law_second"] ["_law_bag_here", "_law_many"] (defScope s_law_row) := ⟨rfl, rfl, rfl, by decide +kernel, rfl, by decide +kernel, by decide +kernel⟩
theorem ok_law_row (T : Tx K mg) : FnOk P w K mg base CX0 3 (He.fAd K ("_law_row", none)) T.fd_law_row ["_law_bag_here", "_law_many"] (sp_law_row K) := by
  have G_law_draw := ok_law_draw (P := P) (w := w) (base := base) T
  have G_law_values := ok_law_values (P := P) (w := w) (base := base) T
  refine T.F_law_row.ok sc_law_row (fun vs H Q E h => ?_) (fun cdv A outer s H0 vs Q E hr h => ?_)
  · obtain ⟨G, O, a1, w1, bag_here1, many1, rfl, _⟩ := h
    rfl
  · obtain ⟨G0, O, a1, w1, bag_here1, many1, rfl, S0, h1, res, hm, q⟩ := h
    refine ⟨_, PSs.nox (pss_cons (ps_set (i := 2) sc_law_row.nd rfl (.inl rfl) (pe_lst pa_nil))
      (pss_cons (ps_set (i := 3) sc_law_row.nd rfl (.inl rfl) (pe_call G_law_draw (hr.mono (by decide)) (by rfl) T.g_law_draw T.F_law_draw.kp T.b_law_draw .nil pass0 (pa_cons (pv 0) (pa_cons pe_int pa_nil))))
      (pss_cons (ps_cut (ps_for PassesOwn.never rfl (pi_range1 (by rfl) T.z_range (pa_cons (pv 1) pa_nil)) (pg_name (i := 4) sc_law_row.nd rfl (.inl rfl))
      (pss_cons (ps_set (i := 5) sc_law_row.nd rfl (.inl rfl) (pe_cut (pe_ifExp (pt_cmpR op_eqI (pe_call G_law_draw (hr.mono (by decide)) (by rfl) T.g_law_draw T.F_law_draw.kp T.b_law_draw .nil pass0 (pa_cons (pv 0) (pa_cons pe_int pa_nil))) pe_int (nomark _)) (pe_call G_law_draw (hr.mono (by decide)) (by rfl) T.g_law_draw T.F_law_draw.kp T.b_law_draw .nil pass0 (pa_cons (pv 0) (pa_cons pe_int pa_nil))) (pe_call G_law_draw (hr.mono (by decide)) (by rfl) T.g_law_draw T.F_law_draw.kp T.b_law_draw .nil pass0 (pa_cons (pv 0) (pa_cons pe_int pa_nil))))))
      (pss_cons (ps_set (i := 6) sc_law_row.nd rfl (.inl rfl) (pe_call G_law_values (hr.mono (by decide)) (by rfl) T.g_law_values T.F_law_values.kp T.b_law_values .nil pass0 (pa_cons (pv 0) pa_nil)))
      (pss_cons (ps_set (i := 7) sc_law_row.nd rfl (.inl rfl) (pv 6))
      (pss_cons (ps_cut (ps_if (pt_cmpR op_lt (pe_call G_law_draw (hr.mono (by decide)) (by rfl) T.g_law_draw T.F_law_draw.kp T.b_law_draw .nil pass0 (pa_cons (pv 0) (pa_cons pe_int pa_nil))) (pv 3) (nomark _)) (pss_one (ps_set (i := 7) sc_law_row.nd rfl (.inl rfl) (pe_call G_law_values (hr.mono (by decide)) (by rfl) T.g_law_values T.F_law_values.kp T.b_law_values .nil pass0 (pa_cons (pv 0) pa_nil)))) pss_nil))
      (pss_cons (ps_cut (ps_if (pt_cut (PW.pt (pw_and (pt_cmpR op_neB (pe_ix ix_tup (pv 6) pe_int (fun _ _ => rfl)) (pe_ix ix_tup (pv 7) pe_int (fun _ _ => rfl)) (nomark _)) (pw_and1 (pt_cmpR op_eqI (pe_call G_law_draw (hr.mono (by decide)) (by rfl) T.g_law_draw T.F_law_draw.kp T.b_law_draw .nil pass0 (pa_cons (pv 0) (pa_cons pe_int pa_nil))) pe_int (nomark _)))))) (pss_one (ps_set (i := 5) sc_law_row.nd rfl (.inl rfl) pe_int)) pss_nil))
      (pss_one (ps_expr (pe_bm PySem.F.plainAttrs_list PySem.F.slot_list_append PySem.F.type_list_append mt_append (pv 2) (pa_cons (pe_tup (pa_cons (pv 5) (pa_cons (pv 6) (pa_cons (pv 7) pa_nil)))) pa_nil)))))))))))
      (pss_one (ps_ret (pv 2)))))), ?_⟩
    have E0 := Ext.refl G0
    have hm0 : (Option.bind (m_law_draw bag_here1 (3 : Int)) fun (r1, bag_here2) =>
  Option.bind (rngM many1) fun xs1 =>
  Option.bind (folM (m_law_row_b1 r1) xs1 (bag_here2, ([] : List (Int × (Int × Int × Int × Bool × Bool × Bool) × (Int × Int × Int × Bool × Bool × Bool))))) fun (bag_here3, row_here1) =>
  some (row_here1, bag_here3)) = some res := hm
    refine gS_AsgN ?_
    refine gLst ?_
    refine gNil' ?_
    have h2 : Al (rP3 K rInt (rP6 K rInt rInt rInt rBool rBool rBool) (rP6 K rInt rInt rInt rBool rBool rBool)) G0 [] [] := True.intro
    refine q_lst S0 h2 (by show 0 ≤ 100000; decide) (fun a2 H1 w2 S1 h3 => ?_)
    refine gS_AsgN ?_
    refine gCall ?_
    refine gCons' ?_
    refine gV rfl ?_
    refine gCons' ?_
    refine gC ?_
    refine gNil' ?_
    have S2 : Sub G0 ((a1, HO.lst w1) :: (a2, HO.lst w2) :: O) H1 := S1.front 1 rfl rfl
    obtain ⟨⟨r1, bag_here2⟩, hq1, hm1⟩ := bindS hm0
    dsimp only at hm1
    refine ⟨G0, ((a2, HO.lst w2) :: O), a1, w1, bag_here1, (3 : Int), rfl, S2, h1, (r1, bag_here2), hq1, fun G1 H2 w3 e1 S3 h4 => ?_⟩
    have h5 := Al.up e1 h3
    have E1 := E0.trans e1
    obtain ⟨xs1, hq2, hm2⟩ := bindS hm1
    obtain ⟨⟨bag_here3, row_here1⟩, hl1, hm3⟩ := bindS hm2
    dsimp only at hm3
    refine gS_CS (fun (σ : L2.St) (H : Hp) => ∃ (G : Hp) (w4 : List V) (w5 : List V) (y1 : Option V) (y2 : Option V) (y3 : Option V) (y4 : Option V), Ext G1 G ∧ Sub G ((a1, HO.lst w4) :: (a2, HO.lst w5) :: O) H ∧ σ = [some (V.ref a1), some (V.int many1), some (V.ref a2), some (V.int r1), y1, y2, y3, y4] ∧ Al rInt G w4 bag_here3 ∧ Al (rP3 K rInt (rP6 K rInt rInt rInt rBool rBool rBool) (rP6 K rInt rInt rInt rBool rBool rBool)) G w5 row_here1) ?_ ?_
    · skip
      refine gFor ?_
      refine gIR ?_
      refine gCons' ?_
      refine gV rfl ?_
      refine gNil' ?_
      refine lp_R hq2 (fol_for Empty hl1) (fun (s : (List Int) × (List (Int × (Int × Int × Int × Bool × Bool × Bool) × (Int × Int × Int × Bool × Bool × Bool)))) (σ : L2.St) (H : Hp) => ∃ (G : Hp) (w4 : List V) (w5 : List V) (y1 : Option V) (y2 : Option V) (y3 : Option V) (y4 : Option V), Ext G1 G ∧ Sub G ((a1, HO.lst w4) :: (a2, HO.lst w5) :: O) H ∧ σ = [some (V.ref a1), some (V.int many1), some (V.ref a2), some (V.int r1), y1, y2, y3, y4] ∧ Al rInt G w4 s.1 ∧ Al (rP3 K rInt (rP6 K rInt rInt rInt rBool rBool rBool) (rP6 K rInt rInt rInt rBool rBool rBool)) G w5 s.2) ⟨G1, w3, w2, _, _, _, _, (Ext.refl _), S3, rfl, h4, h5⟩ ?_ ?_
      · intro i1 x1 s1 b1 hb1 hr1 σ1 H3 hI1
        obtain ⟨s2, hb2, hb3⟩ := goF_some hb1
        subst hb3
        obtain ⟨bag_here4, row_here2⟩ := s1
        obtain ⟨G2, w6, w7, y5, y6, y7, y8, e2, S4, rfl, h7, h8⟩ := hI1
        have E2 := E1.trans e2
        have hm4 : (Option.bind (Option.bind (m_law_draw bag_here4 (3 : Int)) fun (r2, bag_here5) =>
  if (decide (r2 = (0 : Int))) then (Option.bind (m_law_draw bag_here5 (7 : Int)) fun (r3, bag_here6) =>
  some (r3, bag_here6)) else (Option.bind (m_law_draw bag_here5 (3 : Int)) fun (r4, bag_here7) =>
  some (r4, bag_here7))) fun (x2, bag_here8) =>
  Option.bind (m_law_values bag_here8) fun (r8, bag_here12) =>
  Option.bind (Option.bind (m_law_draw bag_here12 (4 : Int)) fun (r11, bag_here16) =>
  if (decide (r11 < r1)) then (Option.bind (m_law_values bag_here16) fun (r12, bag_here17) =>
  some (bag_here17, r12))
  else (some (bag_here16, r8))) fun (bag_here15, second1) =>
  Option.bind (Option.bind (if (r8.2.2.2.2.2 != second1.2.2.2.2.2) then (Option.bind (m_law_draw bag_here15 (2 : Int)) fun (r15, bag_here22) =>
  some ((decide (r15 = (1 : Int))), bag_here22)) else some (false, bag_here15)) fun (x4, bag_here23) =>
  if x4 then (some (bag_here23, (0 : Int)))
  else (some (bag_here23, x2))) fun (bag_here21, count1) =>
  Option.bind (appM row_here2 (count1, r8, second1)) fun row_here3 =>
  some (bag_here21, row_here3)) = some s2 := hb2
        refine gS_AsgN ?_
        obtain ⟨⟨x2, bag_here8⟩, hq6, hm8⟩ := bindS hm4
        dsimp only at hm8
        refine gCE (fun (v : V) (H : Hp) => ∃ (G : Hp) (w11 : List V), Ext G2 G ∧ Sub G ((a1, HO.lst w11) :: (a2, HO.lst w7) :: O) H ∧ v = (V.int x2) ∧ Al rInt G w11 bag_here8) ?_ ?_
        · skip
          refine gIf ?_
          refine gTest ?_
          refine gOp ?_
          refine gCall ?_
          refine gCons' ?_
          refine gV rfl ?_
          refine gCons' ?_
          refine gC ?_
          refine gNil' ?_
          obtain ⟨⟨r5, bag_here9⟩, hq7, hm9⟩ := bindS hq6
          dsimp only at hm9
          refine ⟨G2, ((a2, HO.lst w7) :: O), a1, w6, bag_here4, (3 : Int), rfl, S4, h7, (r5, bag_here9), hq7, fun G6 H7 w12 e6 S8 h15 => ?_⟩
          have h16 := Al.up e6 h8
          have E6 := E2.trans e6
          refine gC ?_
          refine ⟨_, _, rfl, rfl, ?_⟩
          refine ⟨(decide (r5 = (0 : Int))), rfl, ?_⟩
          refine ite2 (fun c1 => ?_) (fun c1 => ?_)
          · skip
            have hm10 := (if_pos c1).symm.trans hm9
            refine gCall ?_
            refine gCons' ?_
            refine gV rfl ?_
            refine gCons' ?_
            refine gC ?_
            refine gNil' ?_
            obtain ⟨⟨r6, bag_here10⟩, hq8, hm11⟩ := bindS hm10
            dsimp only at hm11
            refine ⟨G6, ((a2, HO.lst w7) :: O), a1, w12, bag_here9, (7 : Int), rfl, S8, h15, (r6, bag_here10), hq8, fun G7 H8 w13 e7 S9 h17 => ?_⟩
            have h18 := Al.up e7 h16
            have E7 := E6.trans e7
            cases hm11
            exact ⟨G7, w13, (e6.trans e7), S9, rfl, h17⟩
          · skip
            have hm12 := (if_neg c1).symm.trans hm9
            refine gCall ?_
            refine gCons' ?_
            refine gV rfl ?_
            refine gCons' ?_
            refine gC ?_
            refine gNil' ?_
            obtain ⟨⟨r7, bag_here11⟩, hq9, hm13⟩ := bindS hm12
            dsimp only at hm13
            refine ⟨G6, ((a2, HO.lst w7) :: O), a1, w12, bag_here9, (3 : Int), rfl, S8, h15, (r7, bag_here11), hq9, fun G8 H9 w14 e8 S10 h19 => ?_⟩
            have h20 := Al.up e8 h16
            have E8 := E6.trans e8
            cases hm13
            exact ⟨G8, w14, (e6.trans e8), S10, rfl, h19⟩
        · intro v2 H10 hJ
          obtain ⟨G9, w15, e9, S11, rfl, h22⟩ := hJ
          have h23 := Al.up e9 h8
          have E9 := E2.trans e9
          refine gS_AsgN ?_
          refine gCall ?_
          refine gCons' ?_
          refine gV rfl ?_
          refine gNil' ?_
          obtain ⟨⟨r8, bag_here12⟩, hq10, hm14⟩ := bindS hm8
          dsimp only at hm14
          refine ⟨G9, ((a2, HO.lst w7) :: O), a1, w15, bag_here8, rfl, S11, h22, (r8, bag_here12), hq10, fun v3 G10 H11 w16 e10 S12 h24 h25 => ?_⟩
          have h26 := Al.up e10 h23
          have E10 := E9.trans e10
          refine gS_AsgN ?_
          refine gV rfl ?_
          obtain ⟨⟨bag_here15, second1⟩, hq13, hm17⟩ := bindS hm14
          dsimp only at hm17
          refine gS_CS (fun (σ : L2.St) (H : Hp) => ∃ (G : Hp) (w19 : List V) (v5 : V), Ext G10 G ∧ Sub G ((a1, HO.lst w19) :: (a2, HO.lst w7) :: O) H ∧ σ = [some (V.ref a1), some (V.int many1), some (V.ref a2), some (V.int r1), some (V.int x1), some (V.int x2), some v3, some v5] ∧ Al rInt G w19 bag_here15 ∧ R.rel (rP6 K rInt rInt rInt rBool rBool rBool) G v5 second1) ?_ ?_
          · skip
            refine gIfS ?_
            refine gTest ?_
            refine gOp ?_
            refine gCall ?_
            refine gCons' ?_
            refine gV rfl ?_
            refine gCons' ?_
            refine gC ?_
            refine gNil' ?_
            obtain ⟨⟨r11, bag_here16⟩, hq14, hm18⟩ := bindS hq13
            dsimp only at hm18
            refine ⟨G10, ((a2, HO.lst w7) :: O), a1, w16, bag_here12, (4 : Int), rfl, S12, h25, (r11, bag_here16), hq14, fun G13 H14 w20 e13 S15 h36 => ?_⟩
            have h37 := Al.up e13 h26
            have h38 := R.up e13 h24
            have h39 := R.up e13 h24
            have E13 := E10.trans e13
            refine gV rfl ?_
            refine ⟨_, _, rfl, rfl, ?_⟩
            refine ⟨(decide (r11 < r1)), rfl, ?_⟩
            refine ite2 (fun c2 => ?_) (fun c2 => ?_)
            · skip
              have hm19 := (if_pos c2).symm.trans hm18
              refine gAsgN ?_
              refine gCall ?_
              refine gCons' ?_
              refine gV rfl ?_
              refine gNil' ?_
              obtain ⟨⟨r12, bag_here17⟩, hq15, hm20⟩ := bindS hm19
              dsimp only at hm20
              refine ⟨G13, ((a2, HO.lst w7) :: O), a1, w20, bag_here16, rfl, S15, h36, (r12, bag_here17), hq15, fun v6 G14 H15 w21 e14 S16 h40 h41 => ?_⟩
              have h42 := Al.up e14 h37
              have h43 := R.up e14 h38
              have h44 := R.up e14 h39
              have E14 := E13.trans e14
              cases hm20
              exact ⟨G14, w21, v6, (e13.trans e14), S16, rfl, h41, h40⟩
            · skip
              have hm21 := (if_neg c2).symm.trans hm18
              refine gNext ?_
              cases hm21
              exact ⟨G13, w20, v3, e13, S15, rfl, h36, h39⟩
          · intro σ2 H16 hJ1
            obtain ⟨G15, w22, v7, e15, S17, rfl, h45, h46⟩ := hJ1
            have h47 := Al.up e15 h26
            have h48 := R.up e15 h24
            have E15 := E10.trans e15
            obtain ⟨⟨bag_here21, count1⟩, hq19, hm27⟩ := bindS hm17
            dsimp only at hm27
            refine gS_CS (fun (σ : L2.St) (H : Hp) => ∃ (G : Hp) (w27 : List V), Ext G15 G ∧ Sub G ((a1, HO.lst w27) :: (a2, HO.lst w7) :: O) H ∧ σ = [some (V.ref a1), some (V.int many1), some (V.ref a2), some (V.int r1), some (V.int x1), some (V.int count1), some v3, some v7] ∧ Al rInt G w27 bag_here21) ?_ ?_
            · skip
              refine gIfS ?_
              obtain ⟨⟨x4, bag_here23⟩, hq21, hm29⟩ := bindS hq19
              dsimp only at hm29
              refine gCT (fun (b : Bool) (H : Hp) => ∃ (G : Hp) (w29 : List V), Ext G15 G ∧ Sub G ((a1, HO.lst w29) :: (a2, HO.lst w7) :: O) H ∧ b = x4 ∧ Al rInt G w29 bag_here23) ?_ ?_
              · skip
                refine gAnd ?_
                refine gTest ?_
                refine gOp ?_
                refine gOp ?_
                refine gV rfl ?_
                refine gC ?_
                refine q_p6_5 S17 h48 (fun v14 h71 => ?_)
                obtain rfl := (show v14 = (V.bl r8.2.2.2.2.2) from h71)
                refine gOp ?_
                refine gV rfl ?_
                refine gC ?_
                refine q_p6_5 S17 h46 (fun v15 h72 => ?_)
                obtain rfl := (show v15 = (V.bl second1.2.2.2.2.2) from h72)
                refine ⟨_, _, rfl, rfl, ?_⟩
                refine ⟨(r8.2.2.2.2.2 != second1.2.2.2.2.2), rfl, ?_⟩
                refine ite2 (fun c4 => ?_) (fun c4 => ?_)
                · skip
                  have hm30 := (if_pos c4).symm.trans hq21
                  refine gTest ?_
                  refine gOp ?_
                  refine gCall ?_
                  refine gCons' ?_
                  refine gV rfl ?_
                  refine gCons' ?_
                  refine gC ?_
                  refine gNil' ?_
                  obtain ⟨⟨r16, bag_here24⟩, hq22, hm31⟩ := bindS hm30
                  dsimp only at hm31
                  refine ⟨G15, ((a2, HO.lst w7) :: O), a1, w22, bag_here15, (2 : Int), rfl, S17, h45, (r16, bag_here24), hq22, fun G20 H21 w30 e20 S22 h73 => ?_⟩
                  have h74 := Al.up e20 h47
                  have h75 := R.up e20 h48
                  have h76 := R.up e20 h46
                  have E20 := E15.trans e20
                  refine gC ?_
                  refine ⟨_, _, rfl, rfl, ?_⟩
                  refine ⟨(decide (r16 = (1 : Int))), rfl, ?_⟩
                  cases hm31
                  exact ⟨G20, w30, e20, S22, rfl, h73⟩
                · skip
                  have hm32 := (if_neg c4).symm.trans hq21
                  cases hm32
                  exact ⟨G15, w22, (Ext.refl _), S17, rfl, h45⟩
              · intro b3 H22 hJ
                obtain ⟨G21, w31, e21, S23, rfl, h77⟩ := hJ
                have h78 := Al.up e21 h47
                have h79 := R.up e21 h48
                have h80 := R.up e21 h46
                have E21 := E15.trans e21
                refine ite2 (fun c5 => ?_) (fun c5 => ?_)
                · skip
                  have hm33 := (if_pos c5).symm.trans hm29
                  refine gAsgN ?_
                  refine gC ?_
                  cases hm33
                  exact ⟨G21, w31, e21, S23, rfl, h77⟩
                · skip
                  have hm34 := (if_neg c5).symm.trans hm29
                  refine gNext ?_
                  cases hm34
                  exact ⟨G21, w31, e21, S23, rfl, h77⟩
            · intro σ3 H23 hJ2
              obtain ⟨G22, w32, e22, S24, rfl, h81⟩ := hJ2
              have h82 := Al.up e22 h47
              have h83 := R.up e22 h48
              have h84 := R.up e22 h46
              have E22 := E15.trans e22
              refine gDrop ?_
              refine gBM ?_
              refine gV rfl ?_
              have S25 : Sub G22 ((a2, HO.lst w7) :: (a1, HO.lst w32) :: O) H23 := S24.front 1 rfl rfl
              refine ⟨.inl ⟨rfl, _, .inl (.inl S25.head)⟩, ?_⟩
              refine gCons' ?_
              refine gTup' ?_
              refine gCons' ?_
              refine gV rfl ?_
              refine gCons' ?_
              refine gV rfl ?_
              refine gCons' ?_
              refine gV rfl ?_
              refine gNil' ?_
              refine q_tup3 (K := K) S25 (show R.rel rInt G22 (V.int count1) count1 from rfl) (show R.rel (rP6 K rInt rInt rInt rBool rBool rBool) G22 v3 r8 from h83) (show R.rel (rP6 K rInt rInt rInt rBool rBool rBool) G22 v7 second1 from h84) (fun v16 G23 H24 e23 S26 h85 => ?_)
              have h86 := Al.up e23 h81
              have h87 := Al.up e23 h82
              have h88 := R.up e23 h83
              have h89 := R.up e23 h84
              have E23 := E22.trans e23
              refine gNil' ?_
              obtain ⟨row_here3, hq23, hm35⟩ := bindS hm27
              refine q_app S26 h87 (show R.rel (rP3 K rInt (rP6 K rInt rInt rInt rBool rBool rBool) (rP6 K rInt rInt rInt rBool rBool rBool)) G23 v16 (count1, r8, second1) from h85) hq23 (fun H25 w33 S27 h90 => ?_)
              have S28 : Sub G23 ((a1, HO.lst w32) :: (a2, HO.lst w33) :: O) H25 := S27.front 1 rfl rfl
              cases hm35
              exact ⟨(bag_here21, row_here3), ⟨G23, w32, w33, _, _, _, _, (((((e2.trans e9).trans e10).trans e15).trans e22).trans e23), S28, rfl, h86, h90⟩, hr1⟩
      · intro s σ H h1 h2
        cases h1
        obtain ⟨G, k1, k2, k3, k4, k5, k6, ie, irest⟩ := h2
        exact ⟨G, k1, k2, k3, k4, k5, k6, (ie), irest⟩
    · intro σ4 H26 hJ3
      obtain ⟨G24, w34, w35, y9, y10, y11, y12, e24, S29, rfl, h91, h92⟩ := hJ3
      have E24 := E1.trans e24
      refine gRet ?_
      refine gV rfl ?_
      have S30 : Sub G24 ((a2, HO.lst w35) :: (a1, HO.lst w34) :: O) H26 := S29.front 1 rfl rfl
      obtain ⟨G25, e25, S31, h93⟩ := frz_M S30 h92
      have h94 := Al.up e25 h91
      have E25 := E24.trans e25
      cases hm3
      exact q (V.ref a2) G25 H26 w34 E25 S31 h93 h94
end
end Mr

set_option Elab.async false
set_option linter.all false
set_option maxRecDepth 100000
set_option maxHeartbeats 4000000
set_option synthInstance.maxSize 4000
set_option synthInstance.maxHeartbeats 400000
namespace Mr
open PySem PySem.Spec PyProof.Rows L2
section
variable {P : Program} {w : World} {K : PySem.W.Frag} {mg : Str → Option Value} {base : Heap}
theorem sc_law_lines : FnScope ["_law_blocks", "_law_rows", "_law_due", "_law_kept", "_law_count", "_law_values_here", "_law_k", "_law_barred"] ["_law_blocks"] (defScope s_law_lines) := ⟨rfl, rfl, rfl, by decide +kernel, rfl, by decide +kernel, by decide +kernel⟩
theorem ok_law_lines (T : Tx K mg) : FnOk P w K mg base CX0 1 (He.fAd K ("_law_lines", none)) T.fd_law_lines ["_law_blocks"] (sp_law_lines K) := by
  refine T.F_law_lines.ok sc_law_lines (fun vs H Q E h => ?_) (fun cdv A outer s H0 vs Q E hr h => ?_)
  · obtain ⟨G, O, v1, blocks1, rfl, _⟩ := h
    rfl
  · obtain ⟨G0, O, v1, blocks1, rfl, S0, h1, res, hm, q⟩ := h
    refine ⟨_, PSs.nox (pss_cons (ps_par3 (i := 1) (j := 2) (l := 3) (by rfl) sc_law_lines.nd rfl rfl rfl (by decide) (by decide) (by decide) rfl rfl rfl (pa_cons (pe_lst pa_nil) (pa_cons pe_bl (pa_cons pe_bl pa_nil))) (by rfl))
      (pss_cons (ps_cut (ps_for PassesOwn.never rfl (pi_list (pv 0)) (pg_tup rfl (pgs_cons (pg_name (i := 4) sc_law_lines.nd rfl (.inl rfl)) (pgs_cons (pg_name (i := 5) sc_law_lines.nd rfl (.inl rfl)) pgs_nil)))
      (pss_cons (ps_if (pt_val (pe_ix ix_tup (pv 5) pe_int (fun _ _ => rfl))) (pss_one ps_continue) pss_nil)
      (pss_cons (ps_set (i := 2) sc_law_lines.nd rfl (.inl rfl) (pe_cut (pe_or (pv 2) (pe_one (pe_ix ix_tup (pv 5) pe_int (fun _ _ => rfl))))))
      (pss_cons (ps_cut (ps_for PassesOwn.never rfl (pi_range1 (by rfl) T.z_range (pa_cons (pv 4) pa_nil)) (pg_name (i := 6) sc_law_lines.nd rfl (.inl rfl))
      (pss_cons (ps_set (i := 7) sc_law_lines.nd rfl (.inl rfl) (pe_cut (pe_ifExp (pt_cmpR op_eqI (pv 6) pe_int (nomark _)) (pv 3) (pe_cut (pe_or (pe_cmpR op_eqI (pv 6) pe_int (nomark _)) (pe_one (pe_cmpR op_eqI (pv 6) (pe_op op_sub (pv 4) pe_int) (nomark _))))))))
      (pss_one (ps_expr (pe_bm PySem.F.plainAttrs_list PySem.F.slot_list_append PySem.F.type_list_append mt_append (pv 1) (pa_cons (pe_tup (pa_cons (pe_cut (pe_ifExp (pt_cmpR op_eqI (pv 6) pe_int (nomark _)) (pe_ix ix_tup (pv 5) pe_int (fun _ _ => rfl)) pe_int)) (pa_cons (pe_cut (pe_and (pv 2) (pe_one (pe_cmpR op_eqI (pv 6) pe_int (nomark _))))) (pa_cons (pv 7) pa_nil)))) pa_nil)))))))
      (pss_one (ps_cut (ps_if (pt_cmpR op_gt (pv 4) pe_int (nomark _)) (pss_one (ps_par (i := 2) (j := 3) (by rfl) sc_law_lines.nd rfl rfl (by decide) rfl rfl (pa_cons pe_bl (pa_cons (pe_ix ix_tup (pv 5) pe_int (fun _ _ => rfl)) pa_nil)) (by rfl))) pss_nil))))))))
      (pss_one (ps_ret (pv 1))))), ?_⟩
    have E0 := Ext.refl G0
    have hm0 : (Option.bind (folM (m_law_lines_b1) blocks1 (([] : List (Int × Bool × Bool)), false, false)) fun (rows1, due1, kept1) =>
  some rows1) = some res := hm
    refine gS_Par3 ?_
    refine gCons' ?_
    refine gLst ?_
    refine gNil' ?_
    have h2 : Al (rP3 K rInt rBool rBool) G0 [] [] := True.intro
    refine q_lst S0 h2 (by show 0 ≤ 100000; decide) (fun a1 H1 w1 S1 h3 => ?_)
    refine gCons' ?_
    refine gC ?_
    refine gCons' ?_
    refine gC ?_
    refine gNil' ?_
    refine ⟨_, _, _, rfl, ?_⟩
    obtain ⟨⟨rows1, due1, kept1⟩, hl1, hm1⟩ := bindS hm0
    dsimp only at hm1
    refine gS_CS (fun (σ : L2.St) (H : Hp) => ∃ (G : Hp) (w2 : List V) (y1 : Option V) (y2 : Option V) (y3 : Option V) (y4 : Option V), Ext G0 G ∧ Sub G ((a1, HO.lst w2) :: O) H ∧ σ = [some v1, some (V.ref a1), some (V.bl due1), some (V.bl kept1), y1, y2, y3, y4] ∧ Al (rP3 K rInt rBool rBool) G w2 rows1) ?_ ?_
    · skip
      refine gFor ?_
      refine gIL ?_
      refine gV rfl ?_
      refine lp_L (r := (rP2 K rInt (rP6 K rInt rInt rInt rBool rBool rBool))) S1 (rM_L (K := K) h1) (fol_for Empty hl1) (fun (s : (List (Int × Bool × Bool)) × Bool × Bool) (σ : L2.St) (H : Hp) => ∃ (G : Hp) (w2 : List V) (y1 : Option V) (y2 : Option V) (y3 : Option V) (y4 : Option V), Ext G0 G ∧ Sub G ((a1, HO.lst w2) :: O) H ∧ σ = [some v1, some (V.ref a1), some (V.bl s.2.1), some (V.bl s.2.2), y1, y2, y3, y4] ∧ Al (rP3 K rInt rBool rBool) G w2 s.1) ⟨G0, w1, _, _, _, _, (Ext.refl _), S1, rfl, h3⟩ ?_ ?_ ?_
      · intro s σ H hI
        obtain ⟨G, k1, k2, k3, k4, k5, ie, iS, _⟩ := hI
        exact ie.trans iS.ext
      · intro i1 x1 s1 b1 hb1 hr1 v2 σ1 H2 hI1 h4
        obtain ⟨s2, hb2, hb3⟩ := goF_some hb1
        subst hb3
        obtain ⟨rows2, due2, kept2⟩ := s1
        obtain ⟨G1, w3, y5, y6, y7, y8, e1, S2, rfl, h5⟩ := hI1
        have h6 := R.up e1 h1
        have h7 := R.up e1 (rM_L (K := K) h1)
        have E1 := E0.trans e1
        have h8 := R.up e1 h4
        refine q_gt2 S2 h8 (fun v3 v4 h9 h10 => ?_)
        obtain rfl := (show v3 = (V.int x1.1) from h9)
        have hm2 : (if x1.2.2.2.2.2.2 then (some (rows2, due2, kept2))
  else (Option.bind (rngM x1.1) fun xs1 =>
  Option.bind (folM (m_law_lines_b2 due2 kept2 x1) xs1 rows2) fun rows3 =>
  Option.bind (if (decide (x1.1 > (0 : Int))) then (some (false, x1.2.2.2.2.1))
  else (some ((due2 || x1.2.2.2.2.2.1), kept2))) fun (due3, kept3) =>
  some (rows3, due3, kept3))) = some s2 := hb2
        refine gS_IfS ?_
        refine gB ?_
        refine gOp ?_
        refine gV rfl ?_
        refine gC ?_
        refine q_p6_5 S2 h10 (fun v6 h12 => ?_)
        obtain rfl := (show v6 = (V.bl x1.2.2.2.2.2.2) from h12)
        refine ⟨x1.2.2.2.2.2.2, rfl, ?_⟩
        refine ite2 (fun c1 => ?_) (fun c1 => ?_)
        · skip
          have hm3 := (if_pos c1).symm.trans hm2
          cases hm3
          exact ⟨(rows2, due2, kept2), ⟨G1, w3, _, _, _, _, e1, S2, rfl, h5⟩, hr1⟩
        · skip
          have hm4 := (if_neg c1).symm.trans hm2
          refine gNext ?_
          refine gE ?_
          refine gS_AsgN ?_
          refine gCE (fun (b : V) (H : Hp) => ∃ (G : Hp), Ext G1 G ∧ Sub G ((a1, HO.lst w3) :: O) H ∧ b = V.bl (due2 || x1.2.2.2.2.2.1)) ?_ ?_
          · skip
            refine gOrV ?_
            refine gV rfl ?_
            refine ⟨due2, rfl, ?_⟩
            refine ite2 (fun c2 => ?_) (fun c2 => ?_)
            · skip
              exact ⟨G1, (Ext.refl _), S2, congrArg V.bl (by rw [c2, Bool.true_or])⟩
            · skip
              refine gOp ?_
              refine gV rfl ?_
              refine gC ?_
              refine q_p6_4 S2 h10 (fun v9 h15 => ?_)
              obtain rfl := (show v9 = (V.bl x1.2.2.2.2.2.1) from h15)
              exact ⟨G1, (Ext.refl _), S2, congrArg V.bl (by rw [ne_false c2, Bool.false_or])⟩
          · intro b2 H3 hJ
            obtain ⟨G2, e2, S3, rfl⟩ := hJ
            have h16 := R.up e2 h6
            have h17 := Al.up e2 h5
            have h18 := R.up e2 h10
            have h19 := R.up e2 h7
            have E2 := E1.trans e2
            obtain ⟨xs1, hq1, hm5⟩ := bindS hm4
            obtain ⟨rows3, hl2, hm6⟩ := bindS hm5
            refine gS_CS (fun (σ : L2.St) (H : Hp) => ∃ (G : Hp) (w4 : List V) (y9 : Option V) (y10 : Option V), Ext G2 G ∧ Sub G ((a1, HO.lst w4) :: O) H ∧ σ = [some v1, some (V.ref a1), some (V.bl (due2 || x1.2.2.2.2.2.1)), some (V.bl kept2), some (V.int x1.1), some v4, y9, y10] ∧ Al (rP3 K rInt rBool rBool) G w4 rows3) ?_ ?_
            · skip
              refine gFor ?_
              refine gIR ?_
              refine gCons' ?_
              refine gV rfl ?_
              refine gNil' ?_
              refine lp_R hq1 (fol_for Empty hl2) (fun (s : (List (Int × Bool × Bool))) (σ : L2.St) (H : Hp) => ∃ (G : Hp) (w4 : List V) (y9 : Option V) (y10 : Option V), Ext G2 G ∧ Sub G ((a1, HO.lst w4) :: O) H ∧ σ = [some v1, some (V.ref a1), some (V.bl (due2 || x1.2.2.2.2.2.1)), some (V.bl kept2), some (V.int x1.1), some v4, y9, y10] ∧ Al (rP3 K rInt rBool rBool) G w4 s) ⟨G2, w3, _, _, (Ext.refl _), S3, rfl, h17⟩ ?_ ?_
              · intro i2 x2 rows4 b3 hb4 hr2 σ2 H4 hI2
                obtain ⟨s4, hb5, hb6⟩ := goF_some hb4
                subst hb6
                obtain ⟨G3, w5, y11, y12, e3, S4, rfl, h21⟩ := hI2
                have h22 := R.up e3 h16
                have h23 := R.up e3 h18
                have h24 := R.up e3 h19
                have E3 := E2.trans e3
                have hm7 : (Option.bind (appM rows4 ((if (decide (x2 = (0 : Int))) then x1.2.2.2.1 else (0 : Int)), ((due2 || x1.2.2.2.2.2.1) && (decide (x2 = (0 : Int)))), (if (decide (x2 = (0 : Int))) then kept2 else ((decide (x2 = (1 : Int))) || (decide (x2 = (x1.1 - (1 : Int)))))))) fun rows5 =>
  some rows5) = some s4 := hb5
                refine gS_AsgN ?_
                refine gCE (fun (v : V) (H : Hp) => ∃ (G : Hp), Ext G3 G ∧ Sub G ((a1, HO.lst w5) :: O) H ∧ v = (V.bl (if (decide (x2 = (0 : Int))) then kept2 else ((decide (x2 = (1 : Int))) || (decide (x2 = (x1.1 - (1 : Int)))))))) ?_ ?_
                · skip
                  refine gIf ?_
                  refine gTest ?_
                  refine gOp ?_
                  refine gV rfl ?_
                  refine gC ?_
                  refine ⟨_, _, rfl, rfl, ?_⟩
                  refine ⟨(decide (x2 = (0 : Int))), rfl, ?_⟩
                  refine ite2 (fun c4 => ?_) (fun c4 => ?_)
                  · skip
                    refine gV rfl ?_
                    exact ⟨G3, (Ext.refl _), S4, congrArg V.bl (if_pos c4).symm⟩
                  · skip
                    refine gCE (fun (b : V) (H : Hp) => ∃ (G : Hp), Ext G3 G ∧ Sub G ((a1, HO.lst w5) :: O) H ∧ b = V.bl ((decide (x2 = (1 : Int))) || (decide (x2 = (x1.1 - (1 : Int)))))) ?_ ?_
                    · skip
                      refine gOrV ?_
                      refine gOp ?_
                      refine gV rfl ?_
                      refine gC ?_
                      refine ⟨_, _, rfl, rfl, ?_⟩
                      refine ⟨(decide (x2 = (1 : Int))), rfl, ?_⟩
                      refine ite2 (fun c5 => ?_) (fun c5 => ?_)
                      · skip
                        exact ⟨G3, (Ext.refl _), S4, congrArg V.bl (by rw [c5, Bool.true_or])⟩
                      · skip
                        refine gOp ?_
                        refine gV rfl ?_
                        refine gOp ?_
                        refine gV rfl ?_
                        refine gC ?_
                        refine ⟨_, _, rfl, rfl, ?_⟩
                        refine ⟨_, _, rfl, rfl, ?_⟩
                        exact ⟨G3, (Ext.refl _), S4, congrArg V.bl (by rw [ne_false c5, Bool.false_or])⟩
                    · intro b5 H6 hJ
                      obtain ⟨G5, e5, S6, rfl⟩ := hJ
                      have h29 := R.up e5 h22
                      have h30 := Al.up e5 h21
                      have h31 := R.up e5 h23
                      have h32 := R.up e5 h24
                      have E5 := E3.trans e5
                      exact ⟨G5, e5, S6, congrArg V.bl (if_neg c4).symm⟩
                · intro v11 H7 hJ
                  obtain ⟨G6, e6, S7, rfl⟩ := hJ
                  have h34 := R.up e6 h22
                  have h35 := Al.up e6 h21
                  have h36 := R.up e6 h23
                  have h37 := R.up e6 h24
                  have E6 := E3.trans e6
                  refine gDrop ?_
                  refine gBM ?_
                  refine gV rfl ?_
                  refine ⟨.inl ⟨rfl, _, .inl (.inl S7.head)⟩, ?_⟩
                  refine gCons' ?_
                  refine gTup' ?_
                  refine gCons' ?_
                  refine gCE (fun (v : V) (H : Hp) => ∃ (G : Hp), Ext G6 G ∧ Sub G ((a1, HO.lst w5) :: O) H ∧ v = (V.int (if (decide (x2 = (0 : Int))) then x1.2.2.2.1 else (0 : Int)))) ?_ ?_
                  · skip
                    refine gIf ?_
                    refine gTest ?_
                    refine gOp ?_
                    refine gV rfl ?_
                    refine gC ?_
                    refine ⟨_, _, rfl, rfl, ?_⟩
                    refine ⟨(decide (x2 = (0 : Int))), rfl, ?_⟩
                    refine ite2 (fun c6 => ?_) (fun c6 => ?_)
                    · skip
                      refine gOp ?_
                      refine gV rfl ?_
                      refine gC ?_
                      refine q_p6_2 S7 h36 (fun v14 h40 => ?_)
                      obtain rfl := (show v14 = (V.int x1.2.2.2.1) from h40)
                      exact ⟨G6, (Ext.refl _), S7, congrArg V.int (if_pos c6).symm⟩
                    · skip
                      refine gC ?_
                      exact ⟨G6, (Ext.refl _), S7, congrArg V.int (if_neg c6).symm⟩
                  · intro v15 H8 hJ
                    obtain ⟨G7, e7, S8, rfl⟩ := hJ
                    have h42 := R.up e7 h34
                    have h43 := Al.up e7 h35
                    have h44 := R.up e7 h36
                    have h45 := R.up e7 h37
                    have E7 := E6.trans e7
                    refine gCons' ?_
                    refine gCE (fun (b : V) (H : Hp) => ∃ (G : Hp), Ext G7 G ∧ Sub G ((a1, HO.lst w5) :: O) H ∧ b = V.bl ((due2 || x1.2.2.2.2.2.1) && (decide (x2 = (0 : Int))))) ?_ ?_
                    · skip
                      refine gAndV ?_
                      refine gV rfl ?_
                      refine ⟨(due2 || x1.2.2.2.2.2.1), rfl, ?_⟩
                      refine ite2 (fun c7 => ?_) (fun c7 => ?_)
                      · skip
                        refine gOp ?_
                        refine gV rfl ?_
                        refine gC ?_
                        refine ⟨_, _, rfl, rfl, ?_⟩
                        exact ⟨G7, (Ext.refl _), S8, congrArg V.bl (by rw [c7, Bool.true_and])⟩
                      · skip
                        exact ⟨G7, (Ext.refl _), S8, congrArg V.bl (by rw [ne_false c7, Bool.false_and])⟩
                    · intro b6 H9 hJ
                      obtain ⟨G8, e8, S9, rfl⟩ := hJ
                      have h46 := R.up e8 h42
                      have h47 := Al.up e8 h43
                      have h48 := R.up e8 h44
                      have h49 := R.up e8 h45
                      have E8 := E7.trans e8
                      refine gCons' ?_
                      refine gV rfl ?_
                      refine gNil' ?_
                      refine q_tup3 (K := K) S9 (show R.rel rInt G8 (V.int (if (decide (x2 = (0 : Int))) then x1.2.2.2.1 else (0 : Int))) (if (decide (x2 = (0 : Int))) then x1.2.2.2.1 else (0 : Int)) from rfl) (show R.rel rBool G8 (V.bl ((due2 || x1.2.2.2.2.2.1) && (decide (x2 = (0 : Int))))) ((due2 || x1.2.2.2.2.2.1) && (decide (x2 = (0 : Int)))) from rfl) (show R.rel rBool G8 (V.bl (if (decide (x2 = (0 : Int))) then kept2 else ((decide (x2 = (1 : Int))) || (decide (x2 = (x1.1 - (1 : Int))))))) (if (decide (x2 = (0 : Int))) then kept2 else ((decide (x2 = (1 : Int))) || (decide (x2 = (x1.1 - (1 : Int)))))) from rfl) (fun v16 G9 H10 e9 S10 h50 => ?_)
                      have h51 := R.up e9 h46
                      have h52 := Al.up e9 h47
                      have h53 := R.up e9 h48
                      have h54 := R.up e9 h49
                      have E9 := E8.trans e9
                      refine gNil' ?_
                      obtain ⟨rows5, hq2, hm8⟩ := bindS hm7
                      refine q_app S10 h52 (show R.rel (rP3 K rInt rBool rBool) G9 v16 ((if (decide (x2 = (0 : Int))) then x1.2.2.2.1 else (0 : Int)), ((due2 || x1.2.2.2.2.2.1) && (decide (x2 = (0 : Int)))), (if (decide (x2 = (0 : Int))) then kept2 else ((decide (x2 = (1 : Int))) || (decide (x2 = (x1.1 - (1 : Int))))))) from h50) hq2 (fun H11 w6 S11 h55 => ?_)
                      cases hm8
                      exact ⟨_, ⟨G9, w6, _, _, ((((e3.trans e6).trans e7).trans e8).trans e9), S11, rfl, h55⟩, hr2⟩
              · intro s σ H h1 h2
                cases h1
                obtain ⟨G, k6, k7, k8, ie, irest⟩ := h2
                exact ⟨G, k6, k7, k8, (ie), irest⟩
            · intro σ3 H12 hJ1
              obtain ⟨G10, w7, y13, y14, e10, S12, rfl, h56⟩ := hJ1
              have h57 := R.up e10 h16
              have h58 := R.up e10 h18
              have h59 := R.up e10 h19
              have E10 := E2.trans e10
              obtain ⟨⟨due3, kept3⟩, hq3, hm9⟩ := bindS hm6
              dsimp only at hm9
              refine gCS (fun (σ : L2.St) (H : Hp) => ∃ (G : Hp) (y15 : Option V) (y16 : Option V), Ext G10 G ∧ Sub G ((a1, HO.lst w7) :: O) H ∧ σ = [some v1, some (V.ref a1), some (V.bl due3), some (V.bl kept3), some (V.int x1.1), some v4, y15, y16]) ?_ ?_
              · skip
                refine gIfS ?_
                refine gTest ?_
                refine gOp ?_
                refine gV rfl ?_
                refine gC ?_
                refine ⟨_, _, rfl, rfl, ?_⟩
                refine ⟨(decide (x1.1 > (0 : Int))), rfl, ?_⟩
                refine ite2 (fun c8 => ?_) (fun c8 => ?_)
                · skip
                  have hm10 := (if_pos c8).symm.trans hq3
                  refine gPar ?_
                  refine gCons' ?_
                  refine gC ?_
                  refine gCons' ?_
                  refine gOp ?_
                  refine gV rfl ?_
                  refine gC ?_
                  refine q_p6_3 S12 h58 (fun v18 h61 => ?_)
                  obtain rfl := (show v18 = (V.bl x1.2.2.2.2.1) from h61)
                  refine gNil' ?_
                  refine ⟨_, _, rfl, ?_⟩
                  cases hm10
                  exact ⟨G10, _, _, (Ext.refl _), S12, rfl⟩
                · skip
                  have hm11 := (if_neg c8).symm.trans hq3
                  refine gNext ?_
                  cases hm11
                  exact ⟨G10, _, _, (Ext.refl _), S12, rfl⟩
              · intro σ4 H13 hJ2
                obtain ⟨G11, y17, y18, e11, S13, rfl⟩ := hJ2
                have h62 := R.up e11 h57
                have h63 := Al.up e11 h56
                have h64 := R.up e11 h58
                have h65 := R.up e11 h59
                have E11 := E10.trans e11
                cases hm9
                exact ⟨(rows3, due3, kept3), ⟨G11, w7, _, _, _, _, (((e1.trans e2).trans e10).trans e11), S13, rfl, h63⟩, hr1⟩
      · intro s σ H h1 h2
        cases h1
        obtain ⟨G, k1, k2, k3, k4, k5, ie, irest⟩ := h2
        exact ⟨G, k1, k2, k3, k4, k5, (ie), irest⟩
    · intro σ5 H14 hJ3
      obtain ⟨G12, w8, y19, y20, y21, y22, e12, S14, rfl, h66⟩ := hJ3
      have h67 := R.up e12 h1
      have E12 := E0.trans e12
      refine gRet ?_
      refine gV rfl ?_
      obtain ⟨G13, e13, S15, h68⟩ := frz_M S14 h66
      have h69 := R.up e13 h67
      have E13 := E12.trans e13
      cases hm1
      exact q (V.ref a1) G13 H14 E13 S15 h68
end
end Mr

set_option Elab.async false
set_option linter.all false
set_option maxRecDepth 100000
set_option maxHeartbeats 4000000
set_option synthInstance.maxSize 4000
set_option synthInstance.maxHeartbeats 400000
namespace Mr
open PySem PySem.Spec PyProof.Rows L2
section
variable {P : Program} {w : World} {K : PySem.W.Frag} {mg : Str → Option Value} {base : Heap}
theorem sc_law_cut : FnScope ["_law_length", "_law_rows", "_law_start", "_law_used", "_law_last", "_law_at", "_law_space", "_law_forced", "_law_barred"] ["_law_length", "_law_rows", "_law_start"] (defScope s_law_cut) := ⟨rfl, rfl, rfl, by decide +kernel, rfl, by decide +kernel, by decide +kernel⟩
theorem ok_law_cut (T : Tx K mg) : FnOk P w K mg base CX0 1 (He.fAd K ("_law_cut", none)) T.fd_law_cut ["_law_length", "_law_rows", "_law_start"] (sp_law_cut K) := by
  refine T.F_law_cut.ok sc_law_cut (fun vs H Q E h => ?_) (fun cdv A outer s H0 vs Q E hr h => ?_)
  · obtain ⟨G, O, length1, v1, rows1, start1, rfl, _⟩ := h
    rfl
  · obtain ⟨G0, O, length1, v1, rows1, start1, rfl, S0, h1, res, hm, q⟩ := h
    refine ⟨_, PSs.nox (pss_cons (ps_asg (pe_tup (pa_cons pe_int (pa_cons pe_non pa_nil))) (pg_tup rfl (pgs_cons (pg_name (i := 3) sc_law_cut.nd rfl (.inl rfl)) (pgs_cons (pg_name (i := 4) sc_law_cut.nd rfl (.inl rfl)) pgs_nil))))
      (pss_cons (ps_cut (ps_for PassesOwn.never rfl (pi_range2 (by rfl) T.z_range (pa_cons (pe_op op_add (pv 2) pe_int) (pa_cons (pe_callB call_lenM (by rfl) T.z_len boot_len (pa_cons (pv 1) pa_nil)) pa_nil))) (pg_name (i := 5) sc_law_cut.nd rfl (.inl rfl))
      (pss_cons (ps_asg (pe_ix ix_list (pv 1) (pv 5) (fun _ _ => rfl)) (pg_tup rfl (pgs_cons (pg_name (i := 6) sc_law_cut.nd rfl (.inl rfl)) (pgs_cons (pg_name (i := 7) sc_law_cut.nd rfl (.inl rfl)) (pgs_cons (pg_name (i := 8) sc_law_cut.nd rfl (.inl rfl)) pgs_nil)))))
      (pss_cons (ps_if (pt_val (pv 7)) (pss_one (ps_ret (pv 5))) pss_nil)
      (pss_cons (ps_if (pt_cmpR op_gt (pe_op op_add (pe_op op_add (pv 3) (pv 6)) pe_int) (pv 0) (nomark _)) (pss_cons (ps_if (pt_not (pt_val (pv 8))) (pss_one (ps_ret (pv 5))) pss_nil)
      (pss_one (ps_ret (pe_cut (pe_ifExp (pt_cmpR op_isNon (pv 4) pe_non (nomark _)) (pv 5) (pv 4)))))) pss_nil)
      (pss_cons (ps_cut (ps_if (pt_not (pt_val (pv 8))) (pss_one (ps_set (i := 4) sc_law_cut.nd rfl (.inl rfl) (pv 5))) pss_nil))
      (pss_one (ps_set (i := 3) sc_law_cut.nd rfl (.inl rfl) (pe_op op_add (pe_op op_add (pv 3) (pv 6)) pe_int)))))))))
      (pss_one (ps_ret (pe_callB call_lenM (by rfl) T.z_len boot_len (pa_cons (pv 1) pa_nil)))))), ?_⟩
    have E0 := Ext.refl G0
    have hm0 : (Option.bind (rng2M (start1 + (1 : Int)) (rows1.length : Int)) fun xs1 =>
  Option.bind (forL (m_law_cut_b1 length1 rows1) xs1 ((1 : Int), (none : (Option Int)))) fun res => match res with
  | Fl.rt r => some r
  | Fl.nx (used1, last1) => some (rows1.length : Int)) = some res := hm
    refine gS_Asg ?_
    refine gTup' ?_
    refine gCons' ?_
    refine gC ?_
    refine gCons' ?_
    refine gC ?_
    refine gNil' ?_
    refine q_tup2 (K := K) S0 (show R.rel rInt G0 (V.int (1 : Int)) (1 : Int) from rfl) (show R.rel rNon G0 V.non () from rfl) (fun v2 G1 H1 e1 S1 h2 => ?_)
    have h3 := R.up e1 h1
    have E1 := E0.trans e1
    refine q_gt2 S1 h2 (fun v3 v4 h4 h5 => ?_)
    obtain rfl := (show v3 = (V.int (1 : Int)) from h4)
    obtain rfl := (show v4 = V.non from h5)
    obtain ⟨xs1, hq1, hm1⟩ := bindS hm0
    obtain ⟨res1, hl1, hm2⟩ := bindS hm1
    refine gS_CS (fun (σ : L2.St) (H : Hp) => ∃ s : Int × (Option Int), res1 = Fl.nx s ∧ ∃ (G : Hp) (v5 : V) (y1 : Option V) (y2 : Option V) (y3 : Option V) (y4 : Option V), Ext G1 G ∧ Sub G (O) H ∧ σ = [some (V.int length1), some v1, some (V.int start1), some (V.int s.1), some v5, y1, y2, y3, y4] ∧ R.rel (rO rInt) G v5 s.2) ?_ ?_
    · skip
      refine gFor ?_
      refine gIR2 ?_
      refine gCons' ?_
      refine gOp ?_
      refine gV rfl ?_
      refine gC ?_
      refine ⟨_, _, rfl, rfl, ?_⟩
      refine gCons' ?_
      refine gCB ?_
      refine gCons' ?_
      refine gV rfl ?_
      refine gNil' ?_
      refine q_lenL (y := V.non) S1 (rM_L (K := K) h3) ?_
      refine gNil' ?_
      refine lp_R2 hq1 hl1 (fun (s : Int × (Option Int)) (σ : L2.St) (H : Hp) => ∃ (G : Hp) (v5 : V) (y1 : Option V) (y2 : Option V) (y3 : Option V) (y4 : Option V), Ext G1 G ∧ Sub G (O) H ∧ σ = [some (V.int length1), some v1, some (V.int start1), some (V.int s.1), some v5, y1, y2, y3, y4] ∧ R.rel (rO rInt) G v5 s.2) ⟨G1, V.non, _, _, _, _, (Ext.refl _), S1, rfl, (rO_none : R.rel (rO rInt) G1 V.non none)⟩ ?_ ?_
      · intro i1 x1 s1 b1 hb1 hr1 σ1 H2 hI1
        obtain ⟨used2, last2⟩ := s1
        obtain ⟨G2, v7, y5, y6, y7, y8, e2, S2, rfl, h7⟩ := hI1
        have h8 := R.up e2 h3
        have E2 := E1.trans e2
        have hm3 : (Option.bind (getM rows1 x1) fun x2 =>
  if x2.2.1 then (some (Bf.rt x1))
  else (if (decide (((used2 + x2.1) + (1 : Int)) > length1)) then (if (!x2.2.2) then (some (Bf.rt x1))
  else (Option.bind (if (last2.isNone) then (some x1) else (Option.bind (last2) fun j1 =>
  some j1)) fun x3 =>
  some (Bf.rt x3)))
  else (Option.bind (if (!x2.2.2) then (some (some x1))
  else (some last2)) fun last3 =>
  some (Bf.go (((used2 + x2.1) + (1 : Int)), last3))))) = some b1 := hb1
        refine gS_Asg ?_
        refine gOp ?_
        refine gV rfl ?_
        refine gV rfl ?_
        obtain ⟨x2, hq2, hm4⟩ := bindS hm3
        refine q_ixL S2 (rM_L (K := K) h8) hq2 (fun v8 h9 => ?_)
        refine q_gt3 S2 h9 (fun v9 v10 v11 h10 h11 h12 => ?_)
        obtain rfl := (show v9 = (V.int x2.1) from h10)
        obtain rfl := (show v10 = (V.bl x2.2.1) from h11)
        obtain rfl := (show v11 = (V.bl x2.2.2) from h12)
        refine gS_IfS ?_
        refine gB ?_
        refine gV rfl ?_
        refine ⟨x2.2.1, rfl, ?_⟩
        refine ite2 (fun c1 => ?_) (fun c1 => ?_)
        · skip
          have hm5 := (if_pos c1).symm.trans hm4
          refine gRet ?_
          refine gV rfl ?_
          cases hm5
          have hr2 := Option.some.inj (show some (Fl.rt _) = some res1 from hr1)
          subst hr2
          dsimp only at hm2
          cases hm2
          exact q G2 H2 E2 S2
        · skip
          have hm6 := (if_neg c1).symm.trans hm4
          refine gNext ?_
          refine gE ?_
          refine gS_IfS ?_
          refine gTest ?_
          refine gOp ?_
          refine gOp ?_
          refine gOp ?_
          refine gV rfl ?_
          refine gV rfl ?_
          refine ⟨_, _, rfl, rfl, ?_⟩
          refine gC ?_
          refine ⟨_, _, rfl, rfl, ?_⟩
          refine gV rfl ?_
          refine ⟨_, _, rfl, rfl, ?_⟩
          refine ⟨(decide (((used2 + x2.1) + (1 : Int)) > length1)), rfl, ?_⟩
          refine ite2 (fun c2 => ?_) (fun c2 => ?_)
          · skip
            have hm7 := (if_pos c2).symm.trans hm6
            refine gS_IfS ?_
            refine gNot ?_
            refine gB ?_
            refine gV rfl ?_
            refine ⟨x2.2.2, rfl, ?_⟩
            refine ite2 (fun c3 => ?_) (fun c3 => ?_)
            · skip
              have hm8 := (if_pos c3).symm.trans hm7
              refine gRet ?_
              refine gV rfl ?_
              cases hm8
              have hr3 := Option.some.inj (show some (Fl.rt _) = some res1 from hr1)
              subst hr3
              dsimp only at hm2
              cases hm2
              exact q G2 H2 E2 S2
            · skip
              have hm9 := (if_neg c3).symm.trans hm7
              refine gNext ?_
              refine gE ?_
              refine gRet ?_
              obtain ⟨x3, hq4, hm11⟩ := bindS hm9
              refine gCE (fun (v : V) (H : Hp) => ∃ (G : Hp), Ext G2 G ∧ Sub G (O) H ∧ v = (V.int x3)) ?_ ?_
              · skip
                refine gIf ?_
                refine gTest ?_
                refine gOp ?_
                refine gV rfl ?_
                refine gC ?_
                refine q_isNon h7 ?_
                refine ⟨(last2.isNone), rfl, ?_⟩
                refine ite2 (fun c4 => ?_) (fun c4 => ?_)
                · skip
                  have hm12 := (if_pos c4).symm.trans hq4
                  refine gV rfl ?_
                  cases hm12
                  exact ⟨G2, (Ext.refl _), S2, rfl⟩
                · skip
                  have hm13 := (if_neg c4).symm.trans hq4
                  refine gV rfl ?_
                  obtain ⟨j2, hq5, hm14⟩ := bindS hm13
                  have h14 := rO_get h7 hq5
                  obtain rfl := (show v7 = (V.int j2) from h14)
                  cases hm14
                  exact ⟨G2, (Ext.refl _), S2, rfl⟩
              · intro v12 H3 hJ
                obtain ⟨G3, e3, S3, rfl⟩ := hJ
                have h16 := R.up e3 h8
                have h17 := R.up e3 h7
                have E3 := E2.trans e3
                cases hm11
                have hr4 := Option.some.inj (show some (Fl.rt _) = some res1 from hr1)
                subst hr4
                dsimp only at hm2
                cases hm2
                exact q G3 H3 E3 S3
          · skip
            have hm15 := (if_neg c2).symm.trans hm6
            refine gNext ?_
            refine gE ?_
            obtain ⟨last3, hq6, hm16⟩ := bindS hm15
            refine gS_CS (fun (σ : L2.St) (H : Hp) => ∃ (G : Hp) (v13 : V), Ext G2 G ∧ Sub G (O) H ∧ σ = [some (V.int length1), some v1, some (V.int start1), some (V.int used2), some v13, some (V.int x1), some (V.int x2.1), some (V.bl x2.2.1), some (V.bl x2.2.2)] ∧ R.rel (rO rInt) G v13 last3) ?_ ?_
            · skip
              refine gIfS ?_
              refine gNot ?_
              refine gB ?_
              refine gV rfl ?_
              refine ⟨x2.2.2, rfl, ?_⟩
              refine ite2 (fun c5 => ?_) (fun c5 => ?_)
              · skip
                have hm17 := (if_pos c5).symm.trans hq6
                refine gAsgN ?_
                refine gV rfl ?_
                cases hm17
                exact ⟨G2, (V.int x1), (Ext.refl _), S2, rfl, (rO_some (by intro z; cases z) (show R.rel rInt G2 (V.int x1) x1 from rfl))⟩
              · skip
                have hm18 := (if_neg c5).symm.trans hq6
                refine gNext ?_
                cases hm18
                exact ⟨G2, v7, (Ext.refl _), S2, rfl, h7⟩
            · intro σ2 H4 hJ1
              obtain ⟨G4, v14, e4, S4, rfl, h18⟩ := hJ1
              have h19 := R.up e4 h8
              have E4 := E2.trans e4
              refine gAsgN ?_
              refine gOp ?_
              refine gOp ?_
              refine gV rfl ?_
              refine gV rfl ?_
              refine ⟨_, _, rfl, rfl, ?_⟩
              refine gC ?_
              refine ⟨_, _, rfl, rfl, ?_⟩
              cases hm16
              exact ⟨(((used2 + x2.1) + (1 : Int)), last3), ⟨G4, v14, _, _, _, _, (e2.trans e4), S4, rfl, h18⟩, hr1⟩
      · intro s σ H h1 h2
        obtain ⟨G, k1, k2, k3, k4, k5, ie, irest⟩ := h2
        exact ⟨s, h1, G, k1, k2, k3, k4, k5, (ie), irest⟩
    · intro σ3 H5 hJ2
      obtain ⟨s2, hres1, hJ3⟩ := hJ2
      subst hres1
      obtain ⟨used1, last1⟩ := s2
      dsimp only at hm2
      obtain ⟨G5, v15, y9, y10, y11, y12, e5, S5, rfl, h20⟩ := hJ3
      have h21 := R.up e5 h3
      have E5 := E1.trans e5
      refine gRet ?_
      refine gCB ?_
      refine gCons' ?_
      refine gV rfl ?_
      refine gNil' ?_
      refine q_lenL (y := V.non) S5 (rM_L (K := K) h21) ?_
      cases hm2
      exact q G5 H5 E5 S5
end
end Mr

set_option Elab.async false
set_option linter.all false
set_option maxRecDepth 100000
set_option maxHeartbeats 4000000
set_option synthInstance.maxSize 4000
set_option synthInstance.maxHeartbeats 400000
namespace Mr
open PySem PySem.Spec PyProof.Rows L2
section
variable {P : Program} {w : World} {K : PySem.W.Frag} {mg : Str → Option Value} {base : Heap}
theorem sc_law_places : FnScope ["_law_length", "_law_rows", "_law_places_here", "_law_start", "_law_stop", "_law_row_here", "_law_at"] ["_law_length", "_law_rows"] (defScope s_law_places) := ⟨rfl, rfl, rfl, by decide +kernel, rfl, by decide +kernel, by decide +kernel⟩
theorem ok_law_places (T : Tx K mg) : FnOk P w K mg base CX0 2 (He.fAd K ("_law_places", none)) T.fd_law_places ["_law_length", "_law_rows"] (sp_law_places K) := by
  have G_law_cut := ok_law_cut (P := P) (w := w) (base := base) T
  refine T.F_law_places.ok sc_law_places (fun vs H Q E h => ?_) (fun cdv A outer s H0 vs Q E hr h => ?_)
  · obtain ⟨G, O, length1, v1, rows1, rfl, _⟩ := h
    rfl
  · obtain ⟨G0, O, length1, v1, rows1, rfl, S0, h1, res, hm, q⟩ := h
    refine ⟨_, PSs.nox (pss_cons (ps_par (i := 2) (j := 3) (by rfl) sc_law_places.nd rfl rfl (by decide) rfl rfl (pa_cons (pe_lst pa_nil) (pa_cons pe_int pa_nil)) (by rfl))
      (pss_cons (ps_cut (ps_while PassesOwn.never (pt_cmpR op_lt (pv 3) (pe_callB call_lenM (by rfl) T.z_len boot_len (pa_cons (pv 1) pa_nil)) (nomark _))
      (pss_cons (ps_set (i := 4) sc_law_places.nd rfl (.inl rfl) (pe_call G_law_cut (hr.mono (by decide)) (by rfl) T.g_law_cut T.F_law_cut.kp T.b_law_cut .nil pass0 (pa_cons (pv 0) (pa_cons (pv 1) (pa_cons (pv 3) pa_nil)))))
      (pss_cons (ps_set (i := 5) sc_law_places.nd rfl (.inl rfl) pe_int)
      (pss_cons (ps_cut (ps_for PassesOwn.never rfl (pi_range2 (by rfl) T.z_range (pa_cons (pv 3) (pa_cons (pv 4) pa_nil))) (pg_name (i := 6) sc_law_places.nd rfl (.inl rfl))
      (pss_cons (ps_cut (ps_if (pt_cmpR op_gt (pv 6) (pv 3) (nomark _)) (pss_one (ps_set (i := 5) sc_law_places.nd rfl (.inl rfl) (pe_op op_add (pe_op op_add (pv 5) pe_int) (pe_ix ix_tup (pe_ix ix_list (pv 1) (pv 6) (fun _ _ => rfl)) pe_int (fun _ _ => rfl))))) pss_nil))
      (pss_one (ps_expr (pe_bm PySem.F.plainAttrs_list PySem.F.slot_list_append PySem.F.type_list_append mt_append (pv 2) (pa_cons (pe_tup (pa_cons (pe_cmpR op_eqI (pv 6) (pv 3) (nomark _)) (pa_cons (pv 5) pa_nil))) pa_nil)))))))
      (pss_one (ps_set (i := 3) sc_law_places.nd rfl (.inl rfl) (pv 4))))))))
      (pss_one (ps_ret (pv 2))))), ?_⟩
    have E0 := Ext.refl G0
    have hm0 : (Option.bind (whL (m_law_places_b1 length1 rows1) 1000000 (([] : List (Bool × Int)), (0 : Int))) fun res => match res with
  | Fl.rt r => some r
  | Fl.nx (places_here1, start1) => some places_here1) = some res := hm
    refine gS_Par ?_
    refine gCons' ?_
    refine gLst ?_
    refine gNil' ?_
    have h2 : Al (rP2 K rBool rInt) G0 [] [] := True.intro
    refine q_lst S0 h2 (by show 0 ≤ 100000; decide) (fun a1 H1 w1 S1 h3 => ?_)
    refine gCons' ?_
    refine gC ?_
    refine gNil' ?_
    refine ⟨_, _, rfl, ?_⟩
    obtain ⟨res1, hl1, hm1⟩ := bindS hm0
    refine gS_CS (fun (σ : L2.St) (H : Hp) => ∃ s : (List (Bool × Int)) × Int, res1 = Fl.nx s ∧ ∃ (G : Hp) (w2 : List V) (y1 : Option V) (y2 : Option V) (y3 : Option V), Ext G0 G ∧ Sub G ((a1, HO.lst w2) :: O) H ∧ σ = [some (V.int length1), some v1, some (V.ref a1), some (V.int s.2), y1, y2, y3] ∧ Al (rP2 K rBool rInt) G w2 s.1) ?_ ?_
    · skip
      refine lp_W hl1 (fun (s : (List (Bool × Int)) × Int) (σ : L2.St) (H : Hp) => ∃ (G : Hp) (w2 : List V) (y1 : Option V) (y2 : Option V) (y3 : Option V), Ext G0 G ∧ Sub G ((a1, HO.lst w2) :: O) H ∧ σ = [some (V.int length1), some v1, some (V.ref a1), some (V.int s.2), y1, y2, y3] ∧ Al (rP2 K rBool rInt) G w2 s.1) ⟨G0, w1, _, _, _, (Ext.refl _), S1, rfl, h3⟩ ?_
      intro i1 s1 b1 hb1 hr1 σ1 H2 hI1
      obtain ⟨places_here2, start2⟩ := s1
      obtain ⟨G1, w3, y4, y5, y6, e1, S2, rfl, h4⟩ := hI1
      have h5 := R.up e1 h1
      have E1 := E0.trans e1
      have hm2 : (if (decide (start2 < (rows1.length : Int))) then (Option.bind (m_law_cut length1 rows1 start2) fun r1 =>
  Option.bind (rng2M start2 r1) fun xs1 =>
  Option.bind (folM (m_law_places_b2 rows1 start2) xs1 (places_here2, (0 : Int))) fun (places_here3, row_here1) =>
  some (Bf.go (places_here3, r1)))
  else (some (Bf.bk (places_here2, start2)))) = some b1 := hb1
      refine gTest ?_
      refine gOp ?_
      refine gV rfl ?_
      refine gCB ?_
      refine gCons' ?_
      refine gV rfl ?_
      refine gNil' ?_
      refine q_lenL (y := V.non) S2 (rM_L (K := K) h5) ?_
      refine ⟨_, _, rfl, rfl, ?_⟩
      refine ⟨(decide (start2 < (rows1.length : Int))), rfl, ?_⟩
      refine ite2 (fun c1 => ?_) (fun c1 => ?_)
      · skip
        have hm3 := (if_pos c1).symm.trans hm2
        refine whGo ?_
        refine gS_AsgN ?_
        refine gCall ?_
        refine gCons' ?_
        refine gV rfl ?_
        refine gCons' ?_
        refine gV rfl ?_
        refine gCons' ?_
        refine gV rfl ?_
        refine gNil' ?_
        obtain ⟨r1, hq1, hm4⟩ := bindS hm3
        refine ⟨G1, ((a1, HO.lst w3) :: O), length1, v1, rows1, start2, rfl, S2, h5, r1, hq1, fun G2 H3 e2 S3 => ?_⟩
        have h6 := R.up e2 h5
        have h7 := Al.up e2 h4
        have E2 := E1.trans e2
        refine gS_AsgN ?_
        refine gC ?_
        obtain ⟨xs1, hq2, hm5⟩ := bindS hm4
        obtain ⟨⟨places_here3, row_here1⟩, hl2, hm6⟩ := bindS hm5
        dsimp only at hm6
        refine gS_CS (fun (σ : L2.St) (H : Hp) => ∃ (G : Hp) (w4 : List V) (y7 : Option V), Ext G2 G ∧ Sub G ((a1, HO.lst w4) :: O) H ∧ σ = [some (V.int length1), some v1, some (V.ref a1), some (V.int start2), some (V.int r1), some (V.int row_here1), y7] ∧ Al (rP2 K rBool rInt) G w4 places_here3) ?_ ?_
        · skip
          refine gFor ?_
          refine gIR2 ?_
          refine gCons' ?_
          refine gV rfl ?_
          refine gCons' ?_
          refine gV rfl ?_
          refine gNil' ?_
          refine lp_R2 hq2 (fol_for Empty hl2) (fun (s : (List (Bool × Int)) × Int) (σ : L2.St) (H : Hp) => ∃ (G : Hp) (w4 : List V) (y7 : Option V), Ext G2 G ∧ Sub G ((a1, HO.lst w4) :: O) H ∧ σ = [some (V.int length1), some v1, some (V.ref a1), some (V.int start2), some (V.int r1), some (V.int s.2), y7] ∧ Al (rP2 K rBool rInt) G w4 s.1) ⟨G2, w3, _, (Ext.refl _), S3, rfl, h7⟩ ?_ ?_
          · intro i2 x1 s2 b2 hb2 hr2 σ2 H4 hI2
            obtain ⟨s3, hb3, hb4⟩ := goF_some hb2
            subst hb4
            obtain ⟨places_here4, row_here2⟩ := s2
            obtain ⟨G3, w5, y8, e3, S4, rfl, h9⟩ := hI2
            have h10 := R.up e3 h6
            have E3 := E2.trans e3
            have hm7 : (Option.bind (if (decide (x1 > start2)) then (Option.bind (getM rows1 x1) fun x3 =>
  some ((row_here2 + (1 : Int)) + x3.1))
  else (some row_here2)) fun row_here3 =>
  Option.bind (appM places_here4 ((decide (x1 = start2)), row_here3)) fun places_here5 =>
  some (places_here5, row_here3)) = some s3 := hb3
            obtain ⟨row_here3, hq4, hm9⟩ := bindS hm7
            refine gS_CS (fun (σ : L2.St) (H : Hp) => ∃ (G : Hp), Ext G3 G ∧ Sub G ((a1, HO.lst w5) :: O) H ∧ σ = [some (V.int length1), some v1, some (V.ref a1), some (V.int start2), some (V.int r1), some (V.int row_here3), some (V.int x1)]) ?_ ?_
            · skip
              refine gIfS ?_
              refine gTest ?_
              refine gOp ?_
              refine gV rfl ?_
              refine gV rfl ?_
              refine ⟨_, _, rfl, rfl, ?_⟩
              refine ⟨(decide (x1 > start2)), rfl, ?_⟩
              refine ite2 (fun c2 => ?_) (fun c2 => ?_)
              · skip
                have hm10 := (if_pos c2).symm.trans hq4
                refine gAsgN ?_
                refine gOp ?_
                refine gOp ?_
                refine gV rfl ?_
                refine gC ?_
                refine ⟨_, _, rfl, rfl, ?_⟩
                refine gOp ?_
                refine gOp ?_
                refine gV rfl ?_
                refine gV rfl ?_
                obtain ⟨x3, hq5, hm11⟩ := bindS hm10
                refine q_ixL S4 (rM_L (K := K) h10) hq5 (fun v5 h13 => ?_)
                refine gC ?_
                refine q_p3_0 S4 h13 (fun v6 h14 => ?_)
                obtain rfl := (show v6 = (V.int x3.1) from h14)
                refine ⟨_, _, rfl, rfl, ?_⟩
                cases hm11
                exact ⟨G3, (Ext.refl _), S4, rfl⟩
              · skip
                have hm12 := (if_neg c2).symm.trans hq4
                refine gNext ?_
                cases hm12
                exact ⟨G3, (Ext.refl _), S4, rfl⟩
            · intro σ3 H5 hJ1
              obtain ⟨G4, e4, S5, rfl⟩ := hJ1
              have h15 := R.up e4 h10
              have h16 := Al.up e4 h9
              have E4 := E3.trans e4
              refine gDrop ?_
              refine gBM ?_
              refine gV rfl ?_
              refine ⟨.inl ⟨rfl, _, .inl (.inl S5.head)⟩, ?_⟩
              refine gCons' ?_
              refine gTup' ?_
              refine gCons' ?_
              refine gOp ?_
              refine gV rfl ?_
              refine gV rfl ?_
              refine ⟨_, _, rfl, rfl, ?_⟩
              refine gCons' ?_
              refine gV rfl ?_
              refine gNil' ?_
              refine q_tup2 (K := K) S5 (show R.rel rBool G4 (V.bl (decide (x1 = start2))) (decide (x1 = start2)) from rfl) (show R.rel rInt G4 (V.int row_here3) row_here3 from rfl) (fun v7 G5 H6 e5 S6 h17 => ?_)
              have h18 := R.up e5 h15
              have h19 := Al.up e5 h16
              have E5 := E4.trans e5
              refine gNil' ?_
              obtain ⟨places_here5, hq6, hm13⟩ := bindS hm9
              refine q_app S6 h19 (show R.rel (rP2 K rBool rInt) G5 v7 ((decide (x1 = start2)), row_here3) from h17) hq6 (fun H7 w6 S7 h20 => ?_)
              cases hm13
              exact ⟨(places_here5, row_here3), ⟨G5, w6, _, ((e3.trans e4).trans e5), S7, rfl, h20⟩, hr2⟩
          · intro s σ H h1 h2
            cases h1
            obtain ⟨G, k1, k2, ie, irest⟩ := h2
            exact ⟨G, k1, k2, (ie), irest⟩
        · intro σ4 H8 hJ2
          obtain ⟨G6, w7, y9, e6, S8, rfl, h21⟩ := hJ2
          have h22 := R.up e6 h6
          have E6 := E2.trans e6
          refine gAsgN ?_
          refine gV rfl ?_
          cases hm6
          exact ⟨(places_here3, r1), ⟨G6, w7, _, _, _, ((e1.trans e2).trans e6), S8, rfl, h21⟩, hr1⟩
      · skip
        have hm14 := (if_neg c1).symm.trans hm2
        cases hm14
        exact ⟨_, (Option.some.inj hr1).symm, ⟨G1, w3, _, _, _, e1, S2, rfl, h4⟩⟩
    · intro σ5 H9 hJ3
      obtain ⟨s4, hres1, hJ4⟩ := hJ3
      subst hres1
      obtain ⟨places_here1, start1⟩ := s4
      dsimp only at hm1
      obtain ⟨G7, w8, y10, y11, y12, e7, S9, rfl, h23⟩ := hJ4
      have h24 := R.up e7 h1
      have E7 := E0.trans e7
      refine gRet ?_
      refine gV rfl ?_
      obtain ⟨G8, e8, S10, h25⟩ := frz_M S9 h23
      have h26 := R.up e8 h24
      have E8 := E7.trans e8
      cases hm1
      exact q (V.ref a1) G8 H9 E8 S10 h25
end
end Mr

set_option Elab.async false
set_option linter.all false
set_option maxRecDepth 100000
set_option maxHeartbeats 4000000
set_option synthInstance.maxSize 4000
set_option synthInstance.maxHeartbeats 400000
namespace Mr
open PySem PySem.Spec PyProof.Rows L2
section
variable {P : Program} {w : World} {K : PySem.W.Frag} {mg : Str → Option Value} {base : Heap}
theorem sc_law_by_block : FnScope ["_law_length", "_law_blocks", "_law_places_here", "_law_told", "_law_at", "_law_count", "_law_values_here", "_law_size"] ["_law_length", "_law_blocks"] (defScope s_law_by_block) := ⟨rfl, rfl, rfl, by decide +kernel, rfl, by decide +kernel, by decide +kernel⟩
theorem ok_law_by_block (T : Tx K mg) : FnOk P w K mg base CX0 3 (He.fAd K ("_law_by_block", none)) T.fd_law_by_block ["_law_length", "_law_blocks"] (sp_law_by_block K) := by
  have G_law_lines := ok_law_lines (P := P) (w := w) (base := base) T
  have G_law_places := ok_law_places (P := P) (w := w) (base := base) T
  refine T.F_law_by_block.ok sc_law_by_block (fun vs H Q E h => ?_) (fun cdv A outer s H0 vs Q E hr h => ?_)
  · obtain ⟨G, O, length1, v1, blocks1, rfl, _⟩ := h
    rfl
  · obtain ⟨G0, O, length1, v1, blocks1, rfl, S0, h1, res, hm, q⟩ := h
    refine ⟨_, PSs.nox (pss_cons (ps_set (i := 2) sc_law_by_block.nd rfl (.inl rfl) (pe_call G_law_places (hr.mono (by decide)) (by rfl) T.g_law_places T.F_law_places.kp T.b_law_places .nil pass0 (pa_cons (pv 0) (pa_cons (pe_call G_law_lines (hr.mono (by decide)) (by rfl) T.g_law_lines T.F_law_lines.kp T.b_law_lines .nil pass0 (pa_cons (pv 1) pa_nil)) pa_nil))))
      (pss_cons (ps_par (i := 3) (j := 4) (by rfl) sc_law_by_block.nd rfl rfl (by decide) rfl rfl (pa_cons (pe_lst pa_nil) (pa_cons pe_int pa_nil)) (by rfl))
      (pss_cons (ps_cut (ps_for PassesOwn.never rfl (pi_list (pv 1)) (pg_tup rfl (pgs_cons (pg_name (i := 5) sc_law_by_block.nd rfl (.inl rfl)) (pgs_cons (pg_name (i := 6) sc_law_by_block.nd rfl (.inl rfl)) pgs_nil)))
      (pss_cons (ps_set (i := 7) sc_law_by_block.nd rfl (.inl rfl) (pe_cut (pe_ifExp (pt_val (pe_ix ix_tup (pv 6) pe_int (fun _ _ => rfl))) pe_int (pv 5))))
      (pss_cons (ps_expr (pe_bm PySem.F.plainAttrs_list PySem.F.slot_list_append PySem.F.type_list_append mt_append (pv 3) (pa_cons (pe_slice sl_list (pv 2) (po_some (pv 4)) (po_some (pe_op op_add (pv 4) (pv 7)))) pa_nil)))
      (pss_one (ps_set (i := 4) sc_law_by_block.nd rfl (.inl rfl) (pe_op op_add (pv 4) (pv 7))))))))
      (pss_one (ps_ret (pv 3)))))), ?_⟩
    have E0 := Ext.refl G0
    have hm0 : (Option.bind (m_law_lines blocks1) fun r1 =>
  Option.bind (m_law_places length1 r1) fun r2 =>
  Option.bind (folM (m_law_by_block_b1 r2) blocks1 (([] : List (List (Bool × Int))), (0 : Int))) fun (told1, at1) =>
  some told1) = some res := hm
    refine gS_AsgN ?_
    refine gCall ?_
    refine gCons' ?_
    refine gV rfl ?_
    refine gCons' ?_
    refine gCall ?_
    refine gCons' ?_
    refine gV rfl ?_
    refine gNil' ?_
    obtain ⟨r1, hq1, hm1⟩ := bindS hm0
    refine ⟨G0, (O), v1, blocks1, rfl, S0, h1, r1, hq1, fun v2 G1 H1 e1 S1 h2 => ?_⟩
    have h3 := R.up e1 h1
    have E1 := E0.trans e1
    refine gNil' ?_
    obtain ⟨r2, hq2, hm2⟩ := bindS hm1
    refine ⟨G1, (O), length1, v2, r1, rfl, S1, h2, r2, hq2, fun v3 G2 H2 e2 S2 h4 => ?_⟩
    have h5 := R.up e2 h3
    have E2 := E1.trans e2
    refine gS_Par ?_
    refine gCons' ?_
    refine gLst ?_
    refine gNil' ?_
    have h6 : Al (rM (rP2 K rBool rInt)) G2 [] [] := True.intro
    refine q_lst S2 h6 (by show 0 ≤ 100000; decide) (fun a1 H3 w1 S3 h7 => ?_)
    refine gCons' ?_
    refine gC ?_
    refine gNil' ?_
    refine ⟨_, _, rfl, ?_⟩
    obtain ⟨⟨told1, at1⟩, hl1, hm3⟩ := bindS hm2
    dsimp only at hm3
    refine gS_CS (fun (σ : L2.St) (H : Hp) => ∃ (G : Hp) (w2 : List V) (y1 : Option V) (y2 : Option V) (y3 : Option V), Ext G2 G ∧ Sub G ((a1, HO.lst w2) :: O) H ∧ σ = [some (V.int length1), some v1, some v3, some (V.ref a1), some (V.int at1), y1, y2, y3] ∧ Al (rM (rP2 K rBool rInt)) G w2 told1) ?_ ?_
    · skip
      refine gFor ?_
      refine gIL ?_
      refine gV rfl ?_
      refine lp_L (r := (rP2 K rInt (rP6 K rInt rInt rInt rBool rBool rBool))) S3 (rM_L (K := K) h5) (fol_for Empty hl1) (fun (s : (List (List (Bool × Int))) × Int) (σ : L2.St) (H : Hp) => ∃ (G : Hp) (w2 : List V) (y1 : Option V) (y2 : Option V) (y3 : Option V), Ext G2 G ∧ Sub G ((a1, HO.lst w2) :: O) H ∧ σ = [some (V.int length1), some v1, some v3, some (V.ref a1), some (V.int s.2), y1, y2, y3] ∧ Al (rM (rP2 K rBool rInt)) G w2 s.1) ⟨G2, w1, _, _, _, (Ext.refl _), S3, rfl, h7⟩ ?_ ?_ ?_
      · intro s σ H hI
        obtain ⟨G, k1, k2, k3, k4, ie, iS, _⟩ := hI
        exact ie.trans iS.ext
      · intro i1 x1 s1 b1 hb1 hr1 v4 σ1 H4 hI1 h8
        obtain ⟨s2, hb2, hb3⟩ := goF_some hb1
        subst hb3
        obtain ⟨told2, at2⟩ := s1
        obtain ⟨G3, w3, y4, y5, y6, e3, S4, rfl, h9⟩ := hI1
        have h10 := R.up e3 h5
        have h11 := R.up e3 h4
        have h12 := R.up e3 (rM_L (K := K) h5)
        have E3 := E2.trans e3
        have h13 := R.up e3 h8
        refine q_gt2 S4 h13 (fun v5 v6 h14 h15 => ?_)
        obtain rfl := (show v5 = (V.int x1.1) from h14)
        have hm4 : (Option.bind (appM told2 (cutM r2 (some at2) (some (at2 + (if x1.2.2.2.2.2.2 then (0 : Int) else x1.1))))) fun told3 =>
  some (told3, (at2 + (if x1.2.2.2.2.2.2 then (0 : Int) else x1.1)))) = some s2 := hb2
        refine gS_AsgN ?_
        refine gCE (fun (v : V) (H : Hp) => ∃ (G : Hp), Ext G3 G ∧ Sub G ((a1, HO.lst w3) :: O) H ∧ v = (V.int (if x1.2.2.2.2.2.2 then (0 : Int) else x1.1))) ?_ ?_
        · skip
          refine gIf ?_
          refine gB ?_
          refine gOp ?_
          refine gV rfl ?_
          refine gC ?_
          refine q_p6_5 S4 h15 (fun v10 h19 => ?_)
          obtain rfl := (show v10 = (V.bl x1.2.2.2.2.2.2) from h19)
          refine ⟨x1.2.2.2.2.2.2, rfl, ?_⟩
          refine ite2 (fun c1 => ?_) (fun c1 => ?_)
          · skip
            refine gC ?_
            exact ⟨G3, (Ext.refl _), S4, congrArg V.int (if_pos c1).symm⟩
          · skip
            refine gV rfl ?_
            exact ⟨G3, (Ext.refl _), S4, congrArg V.int (if_neg c1).symm⟩
        · intro v11 H5 hJ
          obtain ⟨G4, e4, S5, rfl⟩ := hJ
          have h21 := R.up e4 h10
          have h22 := R.up e4 h11
          have h23 := Al.up e4 h9
          have h24 := R.up e4 h15
          have h25 := R.up e4 h12
          have E4 := E3.trans e4
          refine gS_Drop ?_
          refine gBM ?_
          refine gV rfl ?_
          refine ⟨.inl ⟨rfl, _, .inl (.inl S5.head)⟩, ?_⟩
          refine gCons' ?_
          refine gSl ?_
          refine gV rfl ?_
          refine gPart ?_
          refine gV rfl ?_
          refine ⟨_, rfl, ?_⟩
          refine gPart ?_
          refine gOp ?_
          refine gV rfl ?_
          refine gV rfl ?_
          refine ⟨_, _, rfl, rfl, ?_⟩
          refine ⟨_, rfl, ?_⟩
          refine q_slM S5 (rM_L (K := K) h22) (fun v12 G5 H6 e5 S6 h26 => ?_)
          have h27 := R.up e5 h21
          have h28 := R.up e5 h22
          have h29 := Al.up e5 h23
          have h30 := R.up e5 h24
          have h31 := R.up e5 h25
          have E5 := E4.trans e5
          refine gNil' ?_
          obtain ⟨told3, hq3, hm5⟩ := bindS hm4
          refine q_app S6 h29 (show R.rel (rM (rP2 K rBool rInt)) G5 v12 (cutM r2 (some at2) (some (at2 + (if x1.2.2.2.2.2.2 then (0 : Int) else x1.1)))) from h26) hq3 (fun H7 w4 S7 h32 => ?_)
          refine gAsgN ?_
          refine gOp ?_
          refine gV rfl ?_
          refine gV rfl ?_
          refine ⟨_, _, rfl, rfl, ?_⟩
          cases hm5
          exact ⟨(told3, (at2 + (if x1.2.2.2.2.2.2 then (0 : Int) else x1.1))), ⟨G5, w4, _, _, _, ((e3.trans e4).trans e5), S7, rfl, h32⟩, hr1⟩
      · intro s σ H h1 h2
        cases h1
        obtain ⟨G, k1, k2, k3, k4, ie, irest⟩ := h2
        exact ⟨G, k1, k2, k3, k4, (ie), irest⟩
    · intro σ2 H8 hJ1
      obtain ⟨G6, w5, y7, y8, y9, e6, S8, rfl, h33⟩ := hJ1
      have h34 := R.up e6 h5
      have h35 := R.up e6 h4
      have E6 := E2.trans e6
      refine gRet ?_
      refine gV rfl ?_
      obtain ⟨G7, e7, S9, h36⟩ := frz_M S8 h33
      have h37 := R.up e7 h34
      have h38 := R.up e7 h35
      have E7 := E6.trans e7
      cases hm3
      exact q (V.ref a1) G7 H8 E7 S9 h36
end
end Mr

set_option Elab.async false
set_option linter.all false
set_option maxRecDepth 100000
set_option maxHeartbeats 4000000
set_option synthInstance.maxSize 4000
set_option synthInstance.maxHeartbeats 400000
namespace Mr
open PySem PySem.Spec PyProof.Rows L2
section
variable {P : Program} {w : World} {K : PySem.W.Frag} {mg : Str → Option Value} {base : Heap}
theorem sc_law : FnScope ["_law_script", "_law_bag_here", "_law_lengths", "_law_row_here", "_law_joint", "_law_count", "_law_first", "_law_second", "_law_before", "_law_one_here", "_law_two", "_law_told"] ["_law_script"] (defScope s_law) := ⟨rfl, rfl, rfl, by decide +kernel, rfl, by decide +kernel, by decide +kernel⟩
theorem ok_law (T : Tx K mg) : FnOk P w K mg base CX0 8 (He.fAd K ("law", none)) T.fd_law ["_law_script"] (sp_law K) := by
  have G_law_bag := ok_law_bag (P := P) (w := w) (base := base) T
  have G_law_by_block := ok_law_by_block (P := P) (w := w) (base := base) T
  have G_law_draw := ok_law_draw (P := P) (w := w) (base := base) T
  have G_law_row := ok_law_row (P := P) (w := w) (base := base) T
  have G_alike_at_end := ok_alike_at_end (P := P) (w := w) (base := base) T
  have G_joint_begin := ok_joint_begin (P := P) (w := w) (base := base) T
  have G_joint_block := ok_joint_block (P := P) (w := w) (base := base) T
  refine T.F_law.ok sc_law (fun vs H Q E h => ?_) (fun cdv A outer s H0 vs Q E hr h => ?_)
  · obtain ⟨G, O, v1, script1, rfl, _⟩ := h
    rfl
  · obtain ⟨G0, O, v1, script1, rfl, S0, h1, res, hm, q⟩ := h
    refine ⟨_, PSs.nox (pss_cons (ps_set (i := 1) sc_law.nd rfl (.inl rfl) (pe_call G_law_bag (hr.mono (by decide)) (by rfl) T.g_law_bag T.F_law_bag.kp T.b_law_bag .nil pass0 (pa_cons (pv 0) (pa_cons pe_int pa_nil))))
      (pss_cons (ps_set (i := 2) sc_law.nd rfl (.inl rfl) (pe_tup (pa_cons (pe_op op_add pe_int (pe_call G_law_draw (hr.mono (by decide)) (by rfl) T.g_law_draw T.F_law_draw.kp T.b_law_draw .nil pass0 (pa_cons (pv 1) (pa_cons pe_int pa_nil)))) (pa_cons (pe_op op_add pe_int (pe_call G_law_draw (hr.mono (by decide)) (by rfl) T.g_law_draw T.F_law_draw.kp T.b_law_draw .nil pass0 (pa_cons (pv 1) (pa_cons pe_int pa_nil)))) pa_nil))))
      (pss_cons (ps_cut (ps_if (pt_cmpR op_gt (pe_call G_law_draw (hr.mono (by decide)) (by rfl) T.g_law_draw T.F_law_draw.kp T.b_law_draw .nil pass0 (pa_cons (pv 1) (pa_cons pe_int pa_nil))) pe_int (nomark _)) (pss_one (ps_set (i := 2) sc_law.nd rfl (.inl rfl) (pe_tup (pa_cons (pe_ix ix_tup (pv 2) pe_int (fun _ _ => rfl)) (pa_cons (pe_ix ix_tup (pv 2) pe_int (fun _ _ => rfl)) pa_nil))))) pss_nil))
      (pss_cons (ps_set (i := 3) sc_law.nd rfl (.inl rfl) (pe_call G_law_row (hr.mono (by decide)) (by rfl) T.g_law_row T.F_law_row.kp T.b_law_row .nil pass0 (pa_cons (pv 1) (pa_cons (pe_op op_add pe_int (pe_call G_law_draw (hr.mono (by decide)) (by rfl) T.g_law_draw T.F_law_draw.kp T.b_law_draw .nil pass0 (pa_cons (pv 1) (pa_cons pe_int pa_nil)))) pa_nil))))
      (pss_cons (ps_set (i := 4) sc_law.nd rfl (.inl rfl) (pe_call0 G_joint_begin (hr.mono (by decide)) (by rfl) T.g_joint_begin T.F_joint_begin.kp T.b_joint_begin .nil pass0))
      (pss_cons (ps_cut (ps_for PassesOwn.never rfl (pi_list (pv 3)) (pg_tup rfl (pgs_cons (pg_name (i := 5) sc_law.nd rfl (.inl rfl)) (pgs_cons (pg_name (i := 6) sc_law.nd rfl (.inl rfl)) (pgs_cons (pg_name (i := 7) sc_law.nd rfl (.inl rfl)) pgs_nil))))
      (pss_cons (ps_set (i := 8) sc_law.nd rfl (.inl rfl) (pv 4))
      (pss_cons (ps_set (i := 4) sc_law.nd rfl (.inl rfl) (pe_call G_joint_block (hr.mono (by decide)) (by rfl) T.g_joint_block T.F_joint_block.kp T.b_joint_block .nil pass0 (pa_cons (pv 2) (pa_cons (pv 4) (pa_cons (pv 5) (pa_cons (pv 6) (pa_cons (pv 7) pa_nil)))))))
      (pss_one (ps_if (pt_cut (PW.pt (pw_and (pt_cmpR (op_eqD hr.units) (pv 8) pe_str (nomark _)) (pw_and1 (pt_cmpR (op_neD hr.units) (pv 4) pe_str (nomark _)))))) (pss_one (ps_ret pe_bl)) pss_nil))))))
      (pss_cons (ps_set (i := 9) sc_law.nd rfl (.inl rfl) (pe_call G_law_by_block (hr.mono (by decide)) (by rfl) T.g_law_by_block T.F_law_by_block.kp T.b_law_by_block .nil pass0 (pa_cons (pe_ix ix_tup (pv 2) pe_int (fun _ _ => rfl)) (pa_cons (pe_lc (own := [("_law_count", 5), ("_law_first", 6), ("_law_second", 7)]) (g := gTup K 3 (gCons (gName 5) (gCons (gName 6) (gCons (gName 7) gNil)))) (by rfl) sc_law.nd (pi_list (pv 3)) (blkOk_by (own := [("_law_count", 5), ("_law_first", 6), ("_law_second", 7)]) (N := ["_law_script", "_law_bag_here", "_law_lengths", "_law_row_here", "_law_joint", "_law_count", "_law_first", "_law_second", "_law_before", "_law_one_here", "_law_two", "_law_told"]) (sc := defScope s_law) (by decide +kernel)) (fun _ _ _ _ _ => (pg_tup rfl (pgs_cons (pg_name (i := 5) sc_law.nd rfl (.inl rfl)) (pgs_cons (pg_name (i := 6) sc_law.nd rfl (.inl rfl)) (pgs_cons (pg_name (i := 7) sc_law.nd rfl (.inl rfl)) pgs_nil))))) (fun _ _ _ _ _ => pts_nil) (fun _ _ _ _ _ => (pe_tup (pa_cons (pv 5) (pa_cons (pv 6) pa_nil))))) pa_nil))))
      (pss_cons (ps_set (i := 10) sc_law.nd rfl (.inl rfl) (pe_call G_law_by_block (hr.mono (by decide)) (by rfl) T.g_law_by_block T.F_law_by_block.kp T.b_law_by_block .nil pass0 (pa_cons (pe_ix ix_tup (pv 2) pe_int (fun _ _ => rfl)) (pa_cons (pe_lc (own := [("_law_count", 5), ("_law_first", 6), ("_law_second", 7)]) (g := gTup K 3 (gCons (gName 5) (gCons (gName 6) (gCons (gName 7) gNil)))) (by rfl) sc_law.nd (pi_list (pv 3)) (blkOk_by (own := [("_law_count", 5), ("_law_first", 6), ("_law_second", 7)]) (N := ["_law_script", "_law_bag_here", "_law_lengths", "_law_row_here", "_law_joint", "_law_count", "_law_first", "_law_second", "_law_before", "_law_one_here", "_law_two", "_law_told"]) (sc := defScope s_law) (by decide +kernel)) (fun _ _ _ _ _ => (pg_tup rfl (pgs_cons (pg_name (i := 5) sc_law.nd rfl (.inl rfl)) (pgs_cons (pg_name (i := 6) sc_law.nd rfl (.inl rfl)) (pgs_cons (pg_name (i := 7) sc_law.nd rfl (.inl rfl)) pgs_nil))))) (fun _ _ _ _ _ => pts_nil) (fun _ _ _ _ _ => (pe_tup (pa_cons (pv 5) (pa_cons (pv 7) pa_nil))))) pa_nil))))
      (pss_cons (ps_set (i := 11) sc_law.nd rfl (.inl rfl) (pe_call G_alike_at_end (hr.mono (by decide)) (by rfl) T.g_alike_at_end T.F_alike_at_end.kp T.b_alike_at_end .nil pass0 (pa_cons (pv 4) pa_nil)))
      (pss_one (ps_ret (pe_cut (pe_and (pe_callB call_isi (by rfl) T.z_isinstance boot_isinstance (pa_cons (pv 11) (pa_cons (pe_bltn (v := .ty "bool") (by rfl) T.z_bool boot_bool rfl) pa_nil))) (pe_one (pe_cmpR op_eqB (pv 11) (pe_cmpR (op_eqD hr.units) (pv 9) (pv 10) (nomark _)) (nomark _)))))))))))))))), ?_⟩
    have E0 := Ext.refl G0
    have hm0 : (Option.bind (m_law_bag script1 (0 : Int)) fun r1 =>
  Option.bind (m_law_draw r1 (3 : Int)) fun (r2, r3) =>
  Option.bind (m_law_draw r3 (3 : Int)) fun (r4, r5) =>
  Option.bind (Option.bind (m_law_draw r5 (3 : Int)) fun (r8, r9) =>
  if (decide (r8 > (0 : Int))) then (some (r9, ((((2 : Int) + r2), ((2 : Int) + r4)).1, (((2 : Int) + r2), ((2 : Int) + r4)).1)))
  else (some (r9, (((2 : Int) + r2), ((2 : Int) + r4))))) fun (bag_here1, lengths1) =>
  Option.bind (m_law_draw bag_here1 (9 : Int)) fun (r10, bag_here2) =>
  Option.bind (m_law_row bag_here2 ((1 : Int) + r10)) fun (r11, bag_here3) =>
  Option.bind (m_joint_begin) fun r12 =>
  Option.bind (forL (m_law_b1 lengths1) r11 r12) fun res => match res with
  | Fl.rt r => some r
  | Fl.nx joint1 => Option.bind (folM (m_law_c2) r11 ([] : (List (Int × (Int × Int × Int × Bool × Bool × Bool))))) fun acc1 =>
  Option.bind (m_law_by_block lengths1.1 acc1) fun r14 =>
  Option.bind (folM (m_law_c3) r11 ([] : (List (Int × (Int × Int × Int × Bool × Bool × Bool))))) fun acc4 =>
  Option.bind (m_law_by_block lengths1.2 acc4) fun r15 =>
  Option.bind (m_alike_at_end joint1) fun r16 =>
  some (true && (r16 == (decide (r14 = r15))))) = some res := hm
    refine gS_AsgN ?_
    refine gCall ?_
    refine gCons' ?_
    refine gV rfl ?_
    refine gCons' ?_
    refine gC ?_
    refine gNil' ?_
    obtain ⟨r1, hq1, hm1⟩ := bindS hm0
    refine ⟨G0, (O), v1, script1, (0 : Int), rfl, S0, h1, r1, hq1, fun a1 w1 G1 H1 e1 S1 h2 => ?_⟩
    have h3 := R.up e1 h1
    have E1 := E0.trans e1
    refine gS_AsgN ?_
    refine gTup' ?_
    refine gCons' ?_
    refine gOp ?_
    refine gC ?_
    refine gCall ?_
    refine gCons' ?_
    refine gV rfl ?_
    refine gCons' ?_
    refine gC ?_
    refine gNil' ?_
    obtain ⟨⟨r2, r3⟩, hq2, hm2⟩ := bindS hm1
    dsimp only at hm2
    refine ⟨G1, (O), a1, w1, r1, (3 : Int), rfl, S1, h2, (r2, r3), hq2, fun G2 H2 w2 e2 S2 h4 => ?_⟩
    have h5 := R.up e2 h3
    have E2 := E1.trans e2
    refine ⟨_, _, rfl, rfl, ?_⟩
    refine gCons' ?_
    refine gOp ?_
    refine gC ?_
    refine gCall ?_
    refine gCons' ?_
    refine gV rfl ?_
    refine gCons' ?_
    refine gC ?_
    refine gNil' ?_
    obtain ⟨⟨r4, r5⟩, hq3, hm3⟩ := bindS hm2
    dsimp only at hm3
    refine ⟨G2, (O), a1, w2, r3, (3 : Int), rfl, S2, h4, (r4, r5), hq3, fun G3 H3 w3 e3 S3 h6 => ?_⟩
    have h7 := R.up e3 h5
    have E3 := E2.trans e3
    refine ⟨_, _, rfl, rfl, ?_⟩
    refine gNil' ?_
    refine q_tup2 (K := K) S3 (show R.rel rInt G3 (V.int ((2 : Int) + r2)) ((2 : Int) + r2) from rfl) (show R.rel rInt G3 (V.int ((2 : Int) + r4)) ((2 : Int) + r4) from rfl) (fun v2 G4 H4 e4 S4 h8 => ?_)
    have h9 := R.up e4 h7
    have h10 := Al.up e4 h6
    have E4 := E3.trans e4
    obtain ⟨⟨bag_here1, lengths1⟩, hq5, hm5⟩ := bindS hm3
    dsimp only at hm5
    refine gS_CS (fun (σ : L2.St) (H : Hp) => ∃ (G : Hp) (w5 : List V) (v6 : V) (y1 : Option V) (y2 : Option V) (y3 : Option V) (y4 : Option V) (y5 : Option V) (y6 : Option V) (y7 : Option V) (y8 : Option V) (y9 : Option V), Ext G4 G ∧ Sub G ((a1, HO.lst w5) :: O) H ∧ σ = [some v1, some (V.ref a1), some v6, y1, y2, y3, y4, y5, y6, y7, y8, y9] ∧ Al rInt G w5 bag_here1 ∧ R.rel (rP2 K rInt rInt) G v6 lengths1) ?_ ?_
    · skip
      refine gIfS ?_
      refine gTest ?_
      refine gOp ?_
      refine gCall ?_
      refine gCons' ?_
      refine gV rfl ?_
      refine gCons' ?_
      refine gC ?_
      refine gNil' ?_
      obtain ⟨⟨r8, r9⟩, hq6, hm6⟩ := bindS hq5
      dsimp only at hm6
      refine ⟨G4, (O), a1, w3, r5, (3 : Int), rfl, S4, h10, (r8, r9), hq6, fun G7 H7 w6 e7 S7 h20 => ?_⟩
      have h21 := R.up e7 h9
      have h22 := R.up e7 h8
      have E7 := E4.trans e7
      refine gC ?_
      refine ⟨_, _, rfl, rfl, ?_⟩
      refine ⟨(decide (r8 > (0 : Int))), rfl, ?_⟩
      refine ite2 (fun c1 => ?_) (fun c1 => ?_)
      · skip
        have hm7 := (if_pos c1).symm.trans hm6
        refine gAsgN ?_
        refine gTup' ?_
        refine gCons' ?_
        refine gOp ?_
        refine gV rfl ?_
        refine gC ?_
        refine q_p2_0 S7 h22 (fun v7 h23 => ?_)
        obtain rfl := (show v7 = (V.int (((2 : Int) + r2), ((2 : Int) + r4)).1) from h23)
        refine gCons' ?_
        refine gOp ?_
        refine gV rfl ?_
        refine gC ?_
        refine q_p2_0 S7 h22 (fun v8 h24 => ?_)
        obtain rfl := (show v8 = (V.int (((2 : Int) + r2), ((2 : Int) + r4)).1) from h24)
        refine gNil' ?_
        refine q_tup2 (K := K) S7 (show R.rel rInt G7 (V.int (((2 : Int) + r2), ((2 : Int) + r4)).1) (((2 : Int) + r2), ((2 : Int) + r4)).1 from rfl) (show R.rel rInt G7 (V.int (((2 : Int) + r2), ((2 : Int) + r4)).1) (((2 : Int) + r2), ((2 : Int) + r4)).1 from rfl) (fun v9 G8 H8 e8 S8 h25 => ?_)
        have h26 := R.up e8 h21
        have h27 := Al.up e8 h20
        have h28 := R.up e8 h22
        have E8 := E7.trans e8
        cases hm7
        exact ⟨G8, w6, v9, _, _, _, _, _, _, _, _, _, (e7.trans e8), S8, rfl, h27, h25⟩
      · skip
        have hm8 := (if_neg c1).symm.trans hm6
        refine gNext ?_
        cases hm8
        exact ⟨G7, w6, v2, _, _, _, _, _, _, _, _, _, e7, S7, rfl, h20, h22⟩
    · intro σ1 H9 hJ1
      obtain ⟨G9, w7, v10, y10, y11, y12, y13, y14, y15, y16, y17, y18, e9, S9, rfl, h29, h30⟩ := hJ1
      have h31 := R.up e9 h9
      have E9 := E4.trans e9
      refine gS_AsgN ?_
      refine gCall ?_
      refine gCons' ?_
      refine gV rfl ?_
      refine gCons' ?_
      refine gOp ?_
      refine gC ?_
      refine gCall ?_
      refine gCons' ?_
      refine gV rfl ?_
      refine gCons' ?_
      refine gC ?_
      refine gNil' ?_
      obtain ⟨⟨r10, bag_here2⟩, hq7, hm9⟩ := bindS hm5
      dsimp only at hm9
      refine ⟨G9, (O), a1, w7, bag_here1, (9 : Int), rfl, S9, h29, (r10, bag_here2), hq7, fun G10 H10 w8 e10 S10 h32 => ?_⟩
      have h33 := R.up e10 h31
      have h34 := R.up e10 h30
      have h35 := Al.up e10 h29
      have E10 := E9.trans e10
      refine ⟨_, _, rfl, rfl, ?_⟩
      refine gNil' ?_
      obtain ⟨⟨r11, bag_here3⟩, hq8, hm10⟩ := bindS hm9
      dsimp only at hm10
      refine ⟨G10, (O), a1, w8, bag_here2, ((1 : Int) + r10), rfl, S10, h32, (r11, bag_here3), hq8, fun v11 G11 H11 w9 e11 S11 h36 h37 => ?_⟩
      have h38 := R.up e11 h33
      have h39 := R.up e11 h34
      have E11 := E10.trans e11
      refine gS_AsgN ?_
      refine gCall ?_
      refine gNil' ?_
      obtain ⟨r12, hq9, hm11⟩ := bindS hm10
      refine ⟨G11, ((a1, HO.lst w9) :: O), rfl, S11, r12, hq9, fun v12 G12 H12 e12 S12 h40 => ?_⟩
      have h41 := R.up e12 h38
      have h42 := Al.up e12 h37
      have h43 := R.up e12 h39
      have h44 := R.up e12 h36
      have E12 := E11.trans e12
      obtain ⟨res1, hl1, hm12⟩ := bindS hm11
      refine gS_CS (fun (σ : L2.St) (H : Hp) => ∃ s : (Option ((Wd × Int × Int) × (List Int) × (Wd × Int × Int) × (List Int) × (List (Bool × Int)))), res1 = Fl.nx s ∧ ∃ (G : Hp) (v13 : V) (y19 : Option V) (y20 : Option V) (y21 : Option V) (y22 : Option V) (y23 : Option V) (y24 : Option V) (y25 : Option V), Ext G12 G ∧ Sub G ((a1, HO.lst w9) :: O) H ∧ σ = [some v1, some (V.ref a1), some v10, some v11, some v13, y19, y20, y21, y22, y23, y24, y25] ∧ R.rel (rA (Str.ofString "parted") (rP5 K (rP3 K (rEn e_Wd) rInt rInt) (rT K rInt) (rP3 K (rEn e_Wd) rInt rInt) (rT K rInt) (rT K (rP2 K rBool rInt)))) G v13 s) ?_ ?_
      · skip
        refine gFor ?_
        refine gIL ?_
        refine gV rfl ?_
        refine lp_L (r := (rP3 K rInt (rP6 K rInt rInt rInt rBool rBool rBool) (rP6 K rInt rInt rInt rBool rBool rBool))) S12 (rM_L (K := K) h44) hl1 (fun (s : (Option ((Wd × Int × Int) × (List Int) × (Wd × Int × Int) × (List Int) × (List (Bool × Int))))) (σ : L2.St) (H : Hp) => ∃ (G : Hp) (v13 : V) (y19 : Option V) (y20 : Option V) (y21 : Option V) (y22 : Option V) (y23 : Option V) (y24 : Option V) (y25 : Option V), Ext G12 G ∧ Sub G ((a1, HO.lst w9) :: O) H ∧ σ = [some v1, some (V.ref a1), some v10, some v11, some v13, y19, y20, y21, y22, y23, y24, y25] ∧ R.rel (rA (Str.ofString "parted") (rP5 K (rP3 K (rEn e_Wd) rInt rInt) (rT K rInt) (rP3 K (rEn e_Wd) rInt rInt) (rT K rInt) (rT K (rP2 K rBool rInt)))) G v13 s) ⟨G12, v12, _, _, _, _, _, _, _, (Ext.refl _), S12, rfl, h40⟩ ?_ ?_ ?_
        · intro s σ H hI
          obtain ⟨G, k1, k2, k3, k4, k5, k6, k7, k8, ie, iS, _⟩ := hI
          exact ie.trans iS.ext
        · intro i1 x1 joint2 b1 hb1 hr1 v14 σ2 H13 hI1 h45
          obtain ⟨G13, v15, y26, y27, y28, y29, y30, y31, y32, e13, S13, rfl, h46⟩ := hI1
          have h47 := R.up e13 h41
          have h48 := Al.up e13 h42
          have h49 := R.up e13 h43
          have h50 := R.up e13 h44
          have h51 := R.up e13 (rM_L (K := K) h44)
          have E13 := E12.trans e13
          have h52 := R.up e13 h45
          refine q_gt3 S13 h52 (fun v16 v17 v18 h53 h54 h55 => ?_)
          obtain rfl := (show v16 = (V.int x1.1) from h53)
          have hm13 : (Option.bind (m_joint_block lengths1 joint2 x1.1 x1.2.1 x1.2.2) fun r13 =>
  if ((decide (joint2 = (none : (Option ((Wd × Int × Int) × (List Int) × (Wd × Int × Int) × (List Int) × (List (Bool × Int))))))) && (!decide (r13 = (none : (Option ((Wd × Int × Int) × (List Int) × (Wd × Int × Int) × (List Int) × (List (Bool × Int)))))))) then (some (Bf.rt false))
  else (some (Bf.go r13))) = some b1 := hb1
          refine gS_AsgN ?_
          refine gV rfl ?_
          refine gS_AsgN ?_
          refine gCall ?_
          refine gCons' ?_
          refine gV rfl ?_
          refine gCons' ?_
          refine gV rfl ?_
          refine gCons' ?_
          refine gV rfl ?_
          refine gCons' ?_
          refine gV rfl ?_
          refine gCons' ?_
          refine gV rfl ?_
          refine gNil' ?_
          obtain ⟨r13, hq10, hm14⟩ := bindS hm13
          refine ⟨G13, ((a1, HO.lst w9) :: O), v10, lengths1, v15, joint2, x1.1, v17, x1.2.1, v18, x1.2.2, rfl, S13, h49, h46, h54, h55, r13, hq10, fun v19 G14 H14 e14 S14 h56 => ?_⟩
          have h57 := R.up e14 h47
          have h58 := Al.up e14 h48
          have h59 := R.up e14 h49
          have h60 := R.up e14 h50
          have h61 := R.up e14 h46
          have h62 := R.up e14 h54
          have h63 := R.up e14 h55
          have h64 := R.up e14 h46
          have h65 := R.up e14 h51
          have E14 := E13.trans e14
          refine gIfS ?_
          refine gCT (fun (b : Bool) (H : Hp) => ∃ (G : Hp), Ext G14 G ∧ Sub G ((a1, HO.lst w9) :: O) H ∧ b = ((decide (joint2 = (none : (Option ((Wd × Int × Int) × (List Int) × (Wd × Int × Int) × (List Int) × (List (Bool × Int))))))) && (!decide (r13 = (none : (Option ((Wd × Int × Int) × (List Int) × (Wd × Int × Int) × (List Int) × (List (Bool × Int))))))))) ?_ ?_
          · skip
            refine gAnd ?_
            refine gTest ?_
            refine gOp ?_
            refine gV rfl ?_
            refine gC ?_
            refine q_eqD (dA (Str.ofString "parted") (by decide +kernel) (dP5 (dP3 (dEn (K := K) e_Wd e_Wd_inj e_Wd_ok) (dInt (K := K)) (dInt (K := K))) (dT (dInt (K := K))) (dP3 (dEn (K := K) e_Wd e_Wd_inj e_Wd_ok) (dInt (K := K)) (dInt (K := K))) (dT (dInt (K := K))) (dT (dP2 (dBool (K := K)) (dInt (K := K))))) (fun _ => rfl)) (by show 18 ≤ 64; decide) (R.up S14.ext h64) (R.up S14.ext (rA_none : R.rel (rA (Str.ofString "parted") (rP5 K (rP3 K (rEn e_Wd) rInt rInt) (rT K rInt) (rP3 K (rEn e_Wd) rInt rInt) (rT K rInt) (rT K (rP2 K rBool rInt)))) G14 (V.str (Str.ofString "parted")) none)) ((okA (okP5 (okP3 okEn okI okI) (okT okI) (okP3 okEn okI okI) (okT okI) (okT (okP2 okB okI)))) _) ((okA (okP5 (okP3 okEn okI okI) (okT okI) (okP3 okEn okI okI) (okT okI) (okT (okP2 okB okI)))) _) ?_
            refine ⟨(decide (joint2 = (none : (Option ((Wd × Int × Int) × (List Int) × (Wd × Int × Int) × (List Int) × (List (Bool × Int))))))), rfl, ?_⟩
            refine ite2 (fun c2 => ?_) (fun c2 => ?_)
            · skip
              refine gTest ?_
              refine gOp ?_
              refine gV rfl ?_
              refine gC ?_
              refine q_neD (dA (Str.ofString "parted") (by decide +kernel) (dP5 (dP3 (dEn (K := K) e_Wd e_Wd_inj e_Wd_ok) (dInt (K := K)) (dInt (K := K))) (dT (dInt (K := K))) (dP3 (dEn (K := K) e_Wd e_Wd_inj e_Wd_ok) (dInt (K := K)) (dInt (K := K))) (dT (dInt (K := K))) (dT (dP2 (dBool (K := K)) (dInt (K := K))))) (fun _ => rfl)) (by show 18 ≤ 64; decide) (R.up S14.ext h56) (R.up S14.ext (rA_none : R.rel (rA (Str.ofString "parted") (rP5 K (rP3 K (rEn e_Wd) rInt rInt) (rT K rInt) (rP3 K (rEn e_Wd) rInt rInt) (rT K rInt) (rT K (rP2 K rBool rInt)))) G14 (V.str (Str.ofString "parted")) none)) ((okA (okP5 (okP3 okEn okI okI) (okT okI) (okP3 okEn okI okI) (okT okI) (okT (okP2 okB okI)))) _) ((okA (okP5 (okP3 okEn okI okI) (okT okI) (okP3 okEn okI okI) (okT okI) (okT (okP2 okB okI)))) _) ?_
              refine ⟨(!decide (r13 = (none : (Option ((Wd × Int × Int) × (List Int) × (Wd × Int × Int) × (List Int) × (List (Bool × Int))))))), rfl, ?_⟩
              exact ⟨G14, (Ext.refl _), S14, (by rw [c2, Bool.true_and])⟩
            · skip
              exact ⟨G14, (Ext.refl _), S14, (by rw [ne_false c2, Bool.false_and])⟩
          · intro b2 H15 hJ
            obtain ⟨G15, e15, S15, rfl⟩ := hJ
            have h66 := R.up e15 h57
            have h67 := Al.up e15 h58
            have h68 := R.up e15 h59
            have h69 := R.up e15 h60
            have h70 := R.up e15 h56
            have h71 := R.up e15 h62
            have h72 := R.up e15 h63
            have h73 := R.up e15 h64
            have h74 := R.up e15 h65
            have E15 := E14.trans e15
            refine ite2 (fun c3 => ?_) (fun c3 => ?_)
            · skip
              have hm15 := (if_pos c3).symm.trans hm14
              refine gRet ?_
              refine gC ?_
              have S16 := S15.tail
              cases hm15
              have hr2 := Option.some.inj (show some (Fl.rt _) = some res1 from hr1)
              subst hr2
              dsimp only at hm12
              cases hm12
              exact q G15 H15 E15 S16
            · skip
              have hm16 := (if_neg c3).symm.trans hm14
              refine gNext ?_
              cases hm16
              exact ⟨_, ⟨G15, v19, _, _, _, _, _, _, _, ((e13.trans e14).trans e15), S15, rfl, h70⟩, hr1⟩
        · intro s σ H h1 h2
          obtain ⟨G, k1, k2, k3, k4, k5, k6, k7, k8, ie, irest⟩ := h2
          exact ⟨s, h1, G, k1, k2, k3, k4, k5, k6, k7, k8, (ie), irest⟩
      · intro σ3 H16 hJ2
        obtain ⟨joint1, hres1, hJ3⟩ := hJ2
        subst hres1
        dsimp only at hm12
        obtain ⟨G16, v20, y33, y34, y35, y36, y37, y38, y39, e16, S17, rfl, h75⟩ := hJ3
        have h76 := R.up e16 h41
        have h77 := Al.up e16 h42
        have h78 := R.up e16 h43
        have h79 := R.up e16 h44
        have E16 := E12.trans e16
        refine gS_AsgN ?_
        refine gCall ?_
        refine gCons' ?_
        refine gOp ?_
        refine gV rfl ?_
        refine gC ?_
        refine q_p2_0 S17 h78 (fun v21 h80 => ?_)
        obtain rfl := (show v21 = (V.int lengths1.1) from h80)
        refine gCons' ?_
        refine gLc ?_
        refine gIL ?_
        refine gV rfl ?_
        obtain ⟨acc1, hq11, hm17⟩ := bindS hm12
        refine lc_L (r := (rP3 K rInt (rP6 K rInt rInt rInt rBool rBool rBool) (rP6 K rInt rInt rInt rBool rBool rBool))) S17 (rM_L (K := K) h79) hq11 (fun (D : Addr) (s : (List (Int × (Int × Int × Int × Bool × Bool × Bool)))) (H : Hp) => ∃ (G : Hp) (w10 : List V), Ext G16 G ∧ Sub G ((D, HO.lst w10) :: (a1, HO.lst w9) :: O) H ∧ Al (rP2 K rInt (rP6 K rInt rInt rInt rBool rBool rBool)) G w10 s) ?_ ?_ ?_ ?_
        · intro D1 nD1
          exact ⟨G16, [], Ext.refl _, S17.newOwn nD1, True.intro⟩
        · intro D s H hI
          obtain ⟨G, k9, ie, iS, _⟩ := hI
          exact ie.trans iS.ext
        · intro D2 i2 x2 acc2 s3 hb2 hr3 v26 H18 hI2 h93
          obtain ⟨G18, w11, e18, S19, h94⟩ := hI2
          have h95 := R.up e18 h76
          have h96 := Al.up e18 h77
          have h97 := R.up e18 h78
          have h98 := R.up e18 h79
          have h99 := R.up e18 h75
          have h100 := R.up e18 (rM_L (K := K) h79)
          have E18 := E16.trans e18
          have h101 := R.up e18 h93
          refine q_gt3 S19 h101 (fun v27 v28 v29 h102 h103 h104 => ?_)
          obtain rfl := (show v27 = (V.int x2.1) from h102)
          refine ⟨rfl, ?_⟩
          have hm18 : (Option.bind (appM acc2 (x2.1, x2.2.1)) fun acc3 =>
  some acc3) = some s3 := hb2
          refine gYes ?_
          refine iteT ?_
          refine gTup' ?_
          refine gCons' ?_
          refine gV rfl ?_
          refine gCons' ?_
          refine gV rfl ?_
          refine gNil' ?_
          refine q_tup2 (K := K) S19 (show R.rel rInt G18 (V.int x2.1) x2.1 from rfl) (show R.rel (rP6 K rInt rInt rInt rBool rBool rBool) G18 v28 x2.2.1 from h103) (fun v30 G19 H19 e19 S20 h105 => ?_)
          have h106 := R.up e19 h95
          have h107 := Al.up e19 h96
          have h108 := R.up e19 h97
          have h109 := R.up e19 h98
          have h110 := R.up e19 h99
          have h111 := R.up e19 h103
          have h112 := R.up e19 h104
          have h113 := R.up e19 h100
          have h114 := Al.up e19 h94
          have E19 := E18.trans e19
          obtain ⟨acc3, hq12, hm19⟩ := bindS hm18
          refine q_lcEl S20 h114 (show R.rel (rP2 K rInt (rP6 K rInt rInt rInt rBool rBool rBool)) G19 v30 (x2.1, x2.2.1) from h105) hq12 (fun H20 w12 S21 h115 => ?_)
          cases hm19
          exact ⟨_, ⟨G19, w12, (e18.trans e19), S21, h115⟩, hr3⟩
        · intro D3 H21 hI3
          obtain ⟨G20, w13, e20, S22, h116⟩ := hI3
          have h117 := R.up e20 h76
          have h118 := Al.up e20 h77
          have h119 := R.up e20 h78
          have h120 := R.up e20 h79
          have h121 := R.up e20 h75
          have E20 := E16.trans e20
          refine gNil' ?_
          obtain ⟨G21, e21, S23, h122⟩ := frz_M S22 h116
          have h123 := R.up e21 h117
          have h124 := Al.up e21 h118
          have h125 := R.up e21 h119
          have h126 := R.up e21 h120
          have h127 := R.up e21 h121
          have E21 := E20.trans e21
          obtain ⟨r14, hq13, hm20⟩ := bindS hm17
          refine ⟨G21, ((a1, HO.lst w9) :: O), lengths1.1, (V.ref D3), acc1, rfl, S23, h122, r14, hq13, fun v31 G22 H22 e22 S24 h128 => ?_⟩
          have h129 := R.up e22 h123
          have h130 := Al.up e22 h124
          have h131 := R.up e22 h125
          have h132 := R.up e22 h126
          have h133 := R.up e22 h127
          have E22 := E21.trans e22
          refine gS_AsgN ?_
          refine gCall ?_
          refine gCons' ?_
          refine gOp ?_
          refine gV rfl ?_
          refine gC ?_
          refine q_p2_1 S24 h131 (fun v32 h134 => ?_)
          obtain rfl := (show v32 = (V.int lengths1.2) from h134)
          refine gCons' ?_
          refine gLc ?_
          refine gIL ?_
          refine gV rfl ?_
          obtain ⟨acc4, hq14, hm21⟩ := bindS hm20
          refine lc_L (r := (rP3 K rInt (rP6 K rInt rInt rInt rBool rBool rBool) (rP6 K rInt rInt rInt rBool rBool rBool))) S24 (rM_L (K := K) h132) hq14 (fun (D : Addr) (s : (List (Int × (Int × Int × Int × Bool × Bool × Bool)))) (H : Hp) => ∃ (G : Hp) (w14 : List V), Ext G22 G ∧ Sub G ((D, HO.lst w14) :: (a1, HO.lst w9) :: O) H ∧ Al (rP2 K rInt (rP6 K rInt rInt rInt rBool rBool rBool)) G w14 s) ?_ ?_ ?_ ?_
          · intro D4 nD2
            exact ⟨G22, [], Ext.refl _, S24.newOwn nD2, True.intro⟩
          · intro D s H hI
            obtain ⟨G, k10, ie, iS, _⟩ := hI
            exact ie.trans iS.ext
          · intro D5 i3 x3 acc5 s5 hb3 hr4 v37 H24 hI4 h148
            obtain ⟨G24, w15, e24, S26, h149⟩ := hI4
            have h150 := R.up e24 h129
            have h151 := Al.up e24 h130
            have h152 := R.up e24 h131
            have h153 := R.up e24 h132
            have h154 := R.up e24 h133
            have h155 := R.up e24 h128
            have h156 := R.up e24 (rM_L (K := K) h132)
            have E24 := E22.trans e24
            have h157 := R.up e24 h148
            refine q_gt3 S26 h157 (fun v38 v39 v40 h158 h159 h160 => ?_)
            obtain rfl := (show v38 = (V.int x3.1) from h158)
            refine ⟨rfl, ?_⟩
            have hm22 : (Option.bind (appM acc5 (x3.1, x3.2.2)) fun acc6 =>
  some acc6) = some s5 := hb3
            refine gYes ?_
            refine iteT ?_
            refine gTup' ?_
            refine gCons' ?_
            refine gV rfl ?_
            refine gCons' ?_
            refine gV rfl ?_
            refine gNil' ?_
            refine q_tup2 (K := K) S26 (show R.rel rInt G24 (V.int x3.1) x3.1 from rfl) (show R.rel (rP6 K rInt rInt rInt rBool rBool rBool) G24 v40 x3.2.2 from h160) (fun v41 G25 H25 e25 S27 h161 => ?_)
            have h162 := R.up e25 h150
            have h163 := Al.up e25 h151
            have h164 := R.up e25 h152
            have h165 := R.up e25 h153
            have h166 := R.up e25 h154
            have h167 := R.up e25 h159
            have h168 := R.up e25 h160
            have h169 := R.up e25 h155
            have h170 := R.up e25 h156
            have h171 := Al.up e25 h149
            have E25 := E24.trans e25
            obtain ⟨acc6, hq15, hm23⟩ := bindS hm22
            refine q_lcEl S27 h171 (show R.rel (rP2 K rInt (rP6 K rInt rInt rInt rBool rBool rBool)) G25 v41 (x3.1, x3.2.2) from h161) hq15 (fun H26 w16 S28 h172 => ?_)
            cases hm23
            exact ⟨_, ⟨G25, w16, (e24.trans e25), S28, h172⟩, hr4⟩
          · intro D6 H27 hI5
            obtain ⟨G26, w17, e26, S29, h173⟩ := hI5
            have h174 := R.up e26 h129
            have h175 := Al.up e26 h130
            have h176 := R.up e26 h131
            have h177 := R.up e26 h132
            have h178 := R.up e26 h133
            have h179 := R.up e26 h128
            have E26 := E22.trans e26
            refine gNil' ?_
            obtain ⟨G27, e27, S30, h180⟩ := frz_M S29 h173
            have h181 := R.up e27 h174
            have h182 := Al.up e27 h175
            have h183 := R.up e27 h176
            have h184 := R.up e27 h177
            have h185 := R.up e27 h178
            have h186 := R.up e27 h179
            have E27 := E26.trans e27
            obtain ⟨r15, hq16, hm24⟩ := bindS hm21
            refine ⟨G27, ((a1, HO.lst w9) :: O), lengths1.2, (V.ref D6), acc4, rfl, S30, h180, r15, hq16, fun v42 G28 H28 e28 S31 h187 => ?_⟩
            have h188 := R.up e28 h181
            have h189 := Al.up e28 h182
            have h190 := R.up e28 h183
            have h191 := R.up e28 h184
            have h192 := R.up e28 h185
            have h193 := R.up e28 h186
            have E28 := E27.trans e28
            refine gS_AsgN ?_
            refine gCall ?_
            refine gCons' ?_
            refine gV rfl ?_
            refine gNil' ?_
            obtain ⟨r16, hq17, hm25⟩ := bindS hm24
            refine ⟨G28, ((a1, HO.lst w9) :: O), v20, joint1, rfl, S31, h192, r16, hq17, fun G29 H29 e29 S32 => ?_⟩
            have h194 := R.up e29 h188
            have h195 := Al.up e29 h189
            have h196 := R.up e29 h190
            have h197 := R.up e29 h191
            have h198 := R.up e29 h192
            have h199 := R.up e29 h193
            have h200 := R.up e29 h187
            have E29 := E28.trans e29
            refine gRet ?_
            refine gCE (fun (b : V) (H : Hp) => ∃ (G : Hp), Ext G29 G ∧ Sub G ((a1, HO.lst w9) :: O) H ∧ b = V.bl (true && (r16 == (decide (r14 = r15))))) ?_ ?_
            · skip
              refine gAndV ?_
              refine gCB ?_
              refine gCons' ?_
              refine gV rfl ?_
              refine gCons' ?_
              refine gC ?_
              refine gNil' ?_
              refine q_isi (ty_B _) (by decide +kernel : kitB "bool" "bool" = some true) ?_
              refine ⟨true, rfl, ?_⟩
              refine ite2 (fun c4 => ?_) (fun c4 => ?_)
              · skip
                refine gOp ?_
                refine gV rfl ?_
                refine gOp ?_
                refine gV rfl ?_
                refine gV rfl ?_
                refine q_eqD (dM (dM (dP2 (dBool (K := K)) (dInt (K := K))))) (by show 5 ≤ 64; decide) (R.up S32.ext h199) (R.up S32.ext h200) ((okM (okM (okP2 okB okI))) _) ((okM (okM (okP2 okB okI))) _) ?_
                refine ⟨_, _, rfl, rfl, ?_⟩
                exact ⟨G29, (Ext.refl _), S32, congrArg V.bl (by rw [c4, Bool.true_and])⟩
              · skip
                exact ⟨G29, (Ext.refl _), S32, congrArg V.bl (by rw [ne_false c4, Bool.false_and])⟩
            · intro b3 H30 hJ
              obtain ⟨G30, e30, S33, rfl⟩ := hJ
              have h201 := R.up e30 h194
              have h202 := Al.up e30 h195
              have h203 := R.up e30 h196
              have h204 := R.up e30 h197
              have h205 := R.up e30 h198
              have h206 := R.up e30 h199
              have h207 := R.up e30 h200
              have E30 := E29.trans e30
              have S34 := S33.tail
              cases hm25
              exact q G30 H30 E30 S34
end
end Mr

set_option linter.all false
set_option maxRecDepth 100000
set_option maxHeartbeats 1000000
/-! DrawP: the law's source of draws. -/
namespace Mr
theorem bindOk {α β : Type} {o : Option α} {f : α → Option β} {a : α} {r : Option β} (h : o = some a) (h2 : f a = r) : o.bind f = r := by
  subst h; exact h2
theorem modM_pos {a b : Int} (h : 0 < b) : modM a b = some (a % b) := if_pos h
theorem fdivM_ok {a b : Int} (h : 0 < b) (h2 : b.natAbs.log2 < 9000) : fdivM a b = some (a / b) := if_pos ⟨h, h2⟩
theorem appM_ok {α : Type} {xs : List α} {x : α} (h : xs.length < 100000) : appM xs x = some (xs ++ [x]) := if_pos h
theorem getM_nat {α : Type} {xs : List α} {j : Nat} {x : α} (h : xs[j]? = some x) : getM xs (j : Int) = some x := by
  have hj : j < xs.length := (List.getElem?_eq_some_iff.mp h).1
  unfold getM ixM
  rw [if_pos (by omega), if_pos (by omega)]
  simpa using h
theorem rngM_ok {n : Int} (h : 0 ≤ n) (h2 : n < 2 ^ 62) : rngM n = some ((List.range n.toNat).map fun (i : Nat) => (i : Int)) := if_pos ⟨by omega, h2⟩
theorem folM_inv {α σ : Type} {f : σ → α → Option σ} (P : σ → Prop) : ∀ (xs : List α) (s : σ), P s → (∀ x ∈ xs, ∀ s, P s → ∃ s', f s x = some s' ∧ P s') → ∃ s', folM f xs s = some s' ∧ P s'
  | [], s, h, _ => ⟨s, rfl, h⟩
  | x :: xs, s, h, hs => by
    obtain ⟨s1, h1, p1⟩ := hs x (List.mem_cons_self ..) s h
    obtain ⟨s2, h2, p2⟩ := folM_inv P xs s1 p1 fun y hy => hs y (List.mem_cons_of_mem _ hy)
    exact ⟨s2, bindOk h1 h2, p2⟩
theorem forL_inv {α σ ρ : Type} {f : σ → α → Option (Bf σ ρ)} (P : σ → Prop) : ∀ (xs : List α) (s : σ), P s → (∀ x ∈ xs, ∀ s, P s → ∃ s', f s x = some (.go s') ∧ P s') → ∃ s', forL f xs s = some (.nx s') ∧ P s'
  | [], s, h, _ => ⟨s, rfl, h⟩
  | x :: xs, s, h, hs => by
    obtain ⟨s1, h1, p1⟩ := hs x (List.mem_cons_self ..) s h
    obtain ⟨s2, h2, p2⟩ := forL_inv P xs s1 p1 fun y hy => hs y (List.mem_cons_of_mem _ hy)
    exact ⟨s2, bindOk h1 h2, p2⟩
/-- all turns go on -/
def goL {α σ ρ : Type} (f : σ → α → Option (Bf σ ρ)) : List α → σ → Option σ
  | [], s => some s
  | x :: xs, s => match f s x with
    | some (.go s') => goL f xs s'
    | _ => none
theorem goL_cons {α σ ρ : Type} {f : σ → α → Option (Bf σ ρ)} {x : α} {xs : List α} {s s' : σ} (h : f s x = some (.go s')) : goL f (x :: xs) s = goL f xs s' := by
  show (match f s x with
    | some (.go s') => goL f xs s'
    | _ => none) = _
  rw [h]
theorem goL_for {α σ ρ : Type} {f : σ → α → Option (Bf σ ρ)} : ∀ {xs : List α} {s r : σ}, goL f xs s = some r → forL f xs s = some (.nx r)
  | [], s, r, h => by cases h; rfl
  | x :: xs, s, r, h => by
    have h' : (match f s x with
      | some (.go s') => goL f xs s'
      | _ => none) = some r := h
    split at h'
    · rename_i s' e
      exact bindOk e (goL_for h')
    · cases h'
theorem goL_app {α σ ρ : Type} {f : σ → α → Option (Bf σ ρ)} : ∀ {xs ys : List α} {s s1 : σ}, goL f xs s = some s1 → goL f (xs ++ ys) s = goL f ys s1
  | [], ys, s, s1, h => by cases h; rfl
  | x :: xs, ys, s, s1, h => by
    have h' : (match f s x with
      | some (.go s') => goL f xs s'
      | _ => none) = some s1 := h
    split at h'
    · rename_i s' e
      rw [List.cons_append, goL_cons e]
      exact goL_app h'
    · cases h'
theorem enumF_app {α : Type} : ∀ (xs ys : List α) (k : Nat), enumF k (xs ++ ys) = enumF k xs ++ enumF (k + xs.length) ys
  | [], ys, k => rfl
  | x :: xs, ys, k => by
    show ((k : Int), x) :: enumF (k + 1) (xs ++ ys) = ((k : Int), x) :: (enumF (k + 1) xs ++ enumF (k + (xs.length + 1)) ys)
    rw [enumF_app xs ys (k + 1)]
    have e : k + 1 + xs.length = k + (xs.length + 1) := by omega
    rw [e]
theorem log2_lt {n m : Nat} (h : n < 2 ^ m) (hm : 0 < m) : n.log2 < m := by
  by_cases h0 : n = 0
  · subst h0; simpa using hm
  · exact (Nat.log2_lt h0).mpr h

/-! ### bags -/
def BagOk (b : List Int) : Prop := ∃ g m c : Int, b = [g, m, c]
theorem draw_ok {b : List Int} {n : Int} (hb : BagOk b) (h0 : 0 < n) (h1 : n < 2 ^ 60) : ∃ x b', m_law_draw b n = some (x, b') ∧ 0 ≤ x ∧ x < n ∧ BagOk b' := by
  obtain ⟨g, m, c, rfl⟩ := hb
  have hl : n.natAbs.log2 < 9000 := Nat.lt_of_lt_of_le (log2_lt (m := 60) (by omega) (by decide)) (by decide)
  unfold m_law_draw
  by_cases hg : decide (g > 0) = true
  · exact ⟨g % n, [g / n, m, c], bindOk (a := g) rfl ((if_pos hg).trans (bindOk (a := g) rfl (bindOk (modM_pos h0) (bindOk (a := g) rfl (bindOk (fdivM_ok h0 hl) (bindOk (a := [g / n, m, c]) rfl rfl)))))),
      Int.emod_nonneg _ (by omega), Int.emod_lt_of_pos _ h0, _, _, _, rfl⟩
  · refine ⟨_, [g, (m * 48271 + 11 * (c + 1) + 7) % 2147483647, c + 1], bindOk (a := g) rfl ((if_neg hg).trans (bindOk (a := c) rfl (bindOk (a := [g, m, c + 1]) rfl (bindOk (a := m) rfl (bindOk (a := c + 1) rfl (bindOk (a := [g, (m * 48271 + 11 * (c + 1) + 7) % 2147483647, c + 1]) rfl
      (bindOk (a := (m * 48271 + 11 * (c + 1) + 7) % 2147483647) rfl (bindOk (a := c + 1) rfl (bindOk (modM_pos h0) rfl))))))))), ?_, ?_, _, _, _, rfl⟩
    · exact Int.emod_nonneg _ (by omega)
    · exact Int.emod_lt_of_pos _ h0
theorem bag_ok {ns : List Int} {j : Nat} : ∃ b, m_law_bag ns (j : Int) = some b ∧ BagOk b := by
  unfold m_law_bag
  obtain ⟨m, hm, _⟩ := folM_inv (f := m_law_bag_b1) (fun _ => True) (enumM (cutM ns none (some (63 : Int)))) ((1009 : Int) + ((77 : Int) * (j : Int))) True.intro (fun x _ s _ => ⟨_, rfl, True.intro⟩)
  by_cases h : decide ((j : Int) < (ns.length : Int)) = true
  · have hj : j < ns.length := by have := of_decide_eq_true h; omega
    exact ⟨_, bindOk ((if_pos h).trans (bindOk (getM_nat (List.getElem?_eq_getElem hj)) rfl)) (bindOk hm rfl), _, _, _, rfl⟩
  · exact ⟨_, bindOk (if_neg h) (bindOk hm rfl), _, _, _, rfl⟩
end Mr

set_option linter.all false
set_option maxRecDepth 100000
set_option maxHeartbeats 1000000
/-! the joint standings: what the mirrors compute, and how long the lists grow. -/
namespace Mr
abbrev Ln := Bool × Int
abbrev Sd := Wd × Int × Int
abbrev Jt := Sd × List Int × Sd × List Int × List Ln
abbrev Wn := Int × List Int × Int × List Int × List Ln
theorem szM_ok {α : Type} {xs : List α} (h : xs.length ≤ 100000) : szM xs = some xs := if_pos h
theorem catM_ok {α : Type} {xs ys : List α} (h : xs.length + ys.length ≤ 100000) : catM xs ys = some (xs ++ ys) := if_pos h
theorem getM_last {α : Type} {xs : List α} (h : xs ≠ []) : getM xs (-1) = some (xs.getLast h) := by
  have hl : 0 < xs.length := List.length_pos_iff.mpr h
  unfold getM ixM
  rw [if_neg (by omega), if_pos (by omega)]
  have e : ((-1 : Int) + (xs.length : Int)).toNat = xs.length - 1 := by omega
  show xs[((-1 : Int) + (xs.length : Int)).toNat]? = _
  rw [e, List.getLast_eq_getElem, List.getElem?_eq_getElem]
def br (xs : List Int) : Int := if h : xs = [] then 0 else xs.getLast h + 1
theorem back_rows_ok (xs : List Int) : m_back_rows xs = some (br xs) := by
  unfold m_back_rows br
  by_cases h : xs = []
  · subst h; rfl
  · rw [dif_neg h, if_neg (by cases xs <;> simp_all), getM_last h]; rfl
theorem folM_app {α β : Type} {f : List β → α → Option (List β)} (g : α → β) (hf : ∀ acc x, f acc x = (appM acc (g x)).bind some) :
    ∀ (xs : List α) (acc : List β), acc.length + xs.length ≤ 100000 → folM f xs acc = some (acc ++ xs.map g)
  | [], acc, _ => by simp [folM]
  | x :: xs, acc, h => by
    have h' : acc.length + (xs.length + 1) ≤ 100000 := h
    show (f acc x).bind _ = _
    rw [hf, appM_ok (by omega)]
    show folM f xs (acc ++ [g x]) = _
    rw [folM_app g hf xs (acc ++ [g x]) (by simp; omega)]
    simp
def sty (rows : Int) (xs : List Int) : List Ln := xs.map fun x => (false, rows - br xs + x)
theorem sty_len (rows : Int) (xs : List Int) : (sty rows xs).length = xs.length := by simp [sty]
theorem sty_nil (rows : Int) : sty rows [] = [] := rfl
theorem staying_ok (rows : Int) {xs : List Int} (h : xs.length ≤ 100000) : m_staying rows xs = some (sty rows xs) := by
  unfold m_staying
  rw [back_rows_ok]
  show Option.bind (folM (m_staying_c1 rows (br xs)) xs []) _ = _
  rw [folM_app (f := m_staying_c1 rows (br xs)) (fun x => (false, rows - br xs + x)) (fun _ _ => rfl) xs [] (by simpa using h)]
  rfl
def gov (xs : List Int) : List Ln := (enumM xs).map fun p => (decide (p.1 = 0), p.2)
theorem gov_len (xs : List Int) : (gov xs).length = xs.length := by simp [gov, enumM_length]
theorem going_over_ok {xs : List Int} (h : xs.length ≤ 100000) : m_going_over xs = some (gov xs) := by
  unfold m_going_over
  rw [folM_app (f := m_going_over_c1) (fun p => (decide (p.1 = 0), p.2)) (fun _ _ => rfl) (enumM xs) [] (by simpa [enumM_length] using h)]
  rfl
/-! ### matched -/
def mtc {α : Type} [DecidableEq α] : List α → List α → Option (List α)
  | [], b => some b
  | a, [] => some a
  | x :: a, y :: b => if x = y then mtc a b else none
theorem mtc_nil_r {α : Type} [DecidableEq α] (a : List α) : mtc a [] = some a := by cases a <;> rfl
theorem mtc_nil_l {α : Type} [DecidableEq α] (a : List α) : mtc [] a = some a := by cases a <;> rfl
theorem mtc_len {α : Type} [DecidableEq α] : ∀ {a b r : List α}, mtc a b = some r → r.length ≤ a.length + b.length
  | [], b, r, h => by rw [mtc_nil_l] at h; cases h; simp
  | x :: a, [], r, h => by rw [mtc_nil_r] at h; cases h; simp
  | x :: a, y :: b, r, h => by
    have h' : (if x = y then mtc a b else none) = some r := h
    split at h'
    · have := mtc_len h'; simp; omega
    · cases h'
theorem mtc_ext {α : Type} [DecidableEq α] (c d : List α) : ∀ {a b : List α}, mtc a b = none → mtc (a ++ c) (b ++ d) = none
  | [], b, h => by rw [mtc_nil_l] at h; cases h
  | x :: a, [], h => by rw [mtc_nil_r] at h; cases h
  | x :: a, y :: b, h => by
    have h' : (if x = y then mtc a b else none) = none := h
    show (if x = y then mtc (a ++ c) (b ++ d) else none) = none
    split at h'
    · rename_i e; rw [if_pos e]; exact mtc_ext c d h'
    · rename_i e; rw [if_neg e]
theorem mtc_drop {α : Type} [DecidableEq α] : ∀ {a b r : List α}, mtc a b = some r → r = a.drop (min a.length b.length) ++ b.drop (min a.length b.length)
  | [], b, r, h => by rw [mtc_nil_l] at h; cases h; simp
  | x :: a, [], r, h => by rw [mtc_nil_r] at h; cases h; simp
  | x :: a, y :: b, r, h => by
    have h' : (if x = y then mtc a b else none) = some r := h
    split at h'
    · have := mtc_drop h'
      rw [this]
      have e : min (x :: a).length (y :: b).length = min a.length b.length + 1 := by simp only [List.length_cons]; omega
      rw [e]; simp
    · cases h'
theorem cutM_from {α : Type} (xs : List α) {m : Int} {n : Nat} (h : m = (n : Int)) (hn : n ≤ xs.length) : cutM xs (some m) none = xs.drop n := by
  subst h
  have e : slIx xs.length 0 (some (n : Int)) = n := by
    show (if (n : Int) < 0 then ((n : Int) + (xs.length : Int)).toNat else min (n : Int).toNat xs.length) = n
    rw [if_neg (by omega)]
    omega
  unfold cutM
  rw [e]
  show (xs.drop n).take (xs.length - n) = xs.drop n
  exact List.take_of_length_le (by simp)
theorem matched_go {A B : List Ln} : ∀ (a b p q : List Ln), A = p ++ a → B = q ++ b → p.length = q.length →
    forL (m_matched_b1 A B) ((List.range' p.length (min a.length b.length)).map fun (i : Nat) => (i : Int)) () = some (match mtc a b with
      | none => Fl.rt none
      | some _ => Fl.nx ())
  | [], b, p, q, _, _, _ => by rw [mtc_nil_l]; simp [forL]
  | x :: a, [], p, q, _, _, _ => by rw [mtc_nil_r]; simp [forL]
  | x :: a, y :: b, p, q, hA, hB, hpq => by
    have e : min (x :: a).length (y :: b).length = min a.length b.length + 1 := by simp only [List.length_cons]; omega
    rw [e, List.range'_succ, List.map_cons, forL_cons]
    have gA : getM A ((p.length : Nat) : Int) = some x := getM_nat (by rw [hA]; simp)
    have gB : getM B ((p.length : Nat) : Int) = some y := getM_nat (by rw [hB, hpq]; simp)
    have hb : m_matched_b1 A B () ((p.length : Nat) : Int) = if x = y then some (.go ()) else some (.rt none) := by
      unfold m_matched_b1
      rw [gA, gB]
      by_cases h : x = y <;> simp [h]
    rw [hb]
    show _ = some (match (if x = y then mtc a b else none) with
      | none => Fl.rt none
      | some _ => Fl.nx ())
    by_cases h : x = y
    · rw [if_pos h, if_pos h]
      have := matched_go (A := A) (B := B) a b (p ++ [x]) (q ++ [y]) (by simp [hA]) (by simp [hB]) (by simp [hpq])
      rw [List.length_append] at this
      exact this
    · rw [if_neg h, if_neg h]; rfl
theorem matched_ok {a b : List Ln} (h : a.length + b.length ≤ 100000) : m_matched a b = some (mtc a b) := by
  unfold m_matched
  have e : (if (b.length : Int) < (a.length : Int) then (b.length : Int) else (a.length : Int)) = ((min a.length b.length : Nat) : Int) := by
    split <;> omega
  rw [e, rngM_ok (by omega) (by omega)]
  rw [Int.toNat_natCast, List.range_eq_range']
  have g := matched_go (A := a) (B := b) a b [] [] rfl rfl rfl
  show Option.bind (forL (m_matched_b1 a b) ((List.range' 0 (min a.length b.length)).map fun (i : Nat) => (i : Int)) ()) _ = _
  rw [show (0 : Nat) = ([] : List Ln).length from rfl, g]
  cases hm : mtc a b with
  | none => rfl
  | some r =>
    show Option.bind (catM (cutM a _ _) (cutM b _ _)) _ = _
    rw [cutM_from a rfl (by omega), cutM_from b rfl (by omega)]
    rw [catM_ok (by simp; omega), ← mtc_drop hm]
    rfl
/-! ### the sides' steps -/
abbrev Out := Int × List Int × List Ln
def OutOk (t : Nat) (o : Out) : Prop := o.2.1.length ≤ t + 1 ∧ o.2.2.length ≤ t + 1
theorem fitting_ok (rows : Int) {xs : List Int} (sp : Int) (b : Bool) {t : Nat} (h : xs.length ≤ t) (ht : t ≤ 1000) : ∃ o, m_fitting rows xs sp b = some o ∧ OutOk t o := by
  unfold m_fitting
  cases b
  · refine ⟨_, (if_pos rfl).trans (bindOk (szM_ok (by simp)) (bindOk (staying_ok rows (by omega)) rfl)), ?_, ?_⟩
    · simp
    · simp [sty_len]; omega
  · rw [if_neg (by simp)]
    cases xs with
    | nil => exact ⟨_, (if_neg (by simp)).trans (bindOk (szM_ok (by simp)) rfl), by simp, by simp⟩
    | cons x xs =>
      have h' : xs.length + 1 ≤ t := h
      exact ⟨_, (if_pos (by simp)).trans (bindOk (getM_last (by simp)) (bindOk (szM_ok (by simp; omega)) rfl)), by simp; omega, by simp⟩
theorem side_line_ok (len : Int) (side : Int × List Int) (sp : Int) (b : Bool) {t : Nat} (h : side.2.length ≤ t) (ht : t ≤ 1000) : ∃ o, m_side_line len side sp b = some o ∧ OutOk t o := by
  have z : szM ([] : List Int) = some [] := szM_ok (by simp)
  unfold m_side_line
  by_cases h1 : decide (side.1 = (0 : Int)) = true
  · exact ⟨_, (if_pos h1).trans (bindOk z rfl), by simp, by simp⟩
  rw [if_neg h1]
  by_cases h2 : decide (((side.1 + sp) + (1 : Int)) ≤ len) = true
  · obtain ⟨o, ho, hk⟩ := fitting_ok side.1 sp b h ht
    exact ⟨o, (if_pos h2).trans (bindOk ho rfl), hk⟩
  rw [if_neg h2]
  by_cases h3 : (!b) = true
  · exact ⟨_, (if_pos h3).trans (bindOk z (bindOk (staying_ok side.1 (by omega)) (bindOk (catM_ok (by simp [sty_len]; omega)) rfl))), by simp, by simp [sty_len]; omega⟩
  rw [if_neg h3]
  by_cases h4 : (!(!side.2.isEmpty)) = true
  · exact ⟨_, (if_pos h4).trans (bindOk z rfl), by simp, by simp⟩
  rw [if_neg h4, going_over_ok (by omega), back_rows_ok]
  by_cases h5 : decide (((br side.2 + sp) + (1 : Int)) ≤ len) = true
  · exact ⟨_, (if_pos h5).trans (bindOk z (bindOk (catM_ok (by simp [gov_len]; omega)) rfl)), by simp, by simp [gov_len]; omega⟩
  · exact ⟨_, (if_neg h5).trans (bindOk z (bindOk (catM_ok (by simp [gov_len]; omega)) rfl)), by simp, by simp [gov_len]; omega⟩
abbrev OutC := Sd × List Int × List Ln
def OutCOk (t : Nat) (o : OutC) : Prop := o.2.1.length ≤ t + 1 ∧ o.2.2.length ≤ t + 1
theorem close_side_ok (len : Int) (side : Int × List Int) (b : Bool) {t : Nat} (h : side.2.length ≤ t) (ht : t ≤ 1000) : ∃ o, m_close_side len side b = some o ∧ OutCOk t o := by
  have z : szM ([] : List Int) = some [] := szM_ok (by simp)
  unfold m_close_side
  by_cases h1 : b = true
  · rw [if_pos h1]
    by_cases h2 : ((decide (side.1 = len)) && (!(!side.2.isEmpty))) = true
    · exact ⟨_, (if_pos h2).trans (bindOk z rfl), by simp, by simp⟩
    · exact ⟨_, (if_neg h2).trans (bindOk (back_rows_ok _) rfl), by simp; omega, by simp⟩
  rw [if_neg h1, staying_ok side.1 (by omega)]
  by_cases h3 : decide (side.1 = len) = true
  · exact ⟨_, (if_pos h3).trans (bindOk z rfl), by simp, by simp [sty_len]; omega⟩
  · exact ⟨_, (if_neg h3).trans (bindOk z rfl), by simp, by simp [sty_len]; omega⟩
def topS : Sd := (Wd.top, 0, 0)
theorem fresh_ok (st : Sd) {xs : List Int} (h : xs.length ≤ 100000) : m_fresh_side st xs = some (topS, [], sty st.2.1 xs) :=
  bindOk (szM_ok (by simp)) (bindOk (staying_ok _ h) rfl)
/-! ### merging -/
def setl (o1 o2 : List Int) (S : List Ln) : List Ln × List Ln := if o1.length < o2.length then (S, []) else ([], S)
theorem settled_ok (o1 o2 : List Int) (S : List Ln) : m_settled_lists o1 o2 S = some (setl o1 o2 S) := by
  unfold m_settled_lists setl
  by_cases h : o1.length < o2.length
  · rw [if_pos h, if_pos (by simpa using h)]
  · rw [if_neg h, if_neg (by simpa using h)]
theorem setl_len (o1 o2 : List Int) (S : List Ln) : (setl o1 o2 S).1.length + (setl o1 o2 S).2.length = S.length := by
  unfold setl; split <;> simp
def mrg (o1 o2 : List Int) (S a b : List Ln) : Option (List Ln) := mtc ((setl o1 o2 S).1 ++ a) ((setl o1 o2 S).2 ++ b)
theorem mrg_len {o1 o2 : List Int} {S a b r : List Ln} (h : mrg o1 o2 S a b = some r) : r.length ≤ S.length + a.length + b.length := by
  have := mtc_len h
  have := setl_len o1 o2 S
  simp at *; omega
theorem mrg_nil (o1 o2 : List Int) (S : List Ln) : mrg o1 o2 S [] [] = some S := by
  unfold mrg setl
  split
  · simp [mtc_nil_r]
  · simp [mtc_nil_l]
theorem mrg_ok {o1 o2 : List Int} {S a b : List Ln} (h : S.length + a.length + b.length ≤ 100000) {ρ : Type} {k : Option (List Ln) → Option ρ} :
    (Option.bind (m_settled_lists o1 o2 S) fun r1 => Option.bind (catM r1.1 a) fun z1 => Option.bind (catM r1.2 b) fun z2 => Option.bind (m_matched z1 z2) k) = k (mrg o1 o2 S a b) := by
  have := setl_len o1 o2 S
  refine bindOk (settled_ok _ _ _) (bindOk (catM_ok (by omega)) (bindOk (catM_ok (by omega)) (bindOk (matched_ok (by simp; omega)) rfl)))
def mgd {α : Type} (o1 o2 : List Int) (S : List Ln) (one two : α × List Int × List Ln) : Option (α × List Int × α × List Int × List Ln) :=
  (mrg o1 o2 S one.2.2 two.2.2).map fun j => (one.1, one.2.1, two.1, two.2.1, j)
theorem merged_ok {J : Jt} {one two : OutC} (h : J.2.2.2.2.length + one.2.2.length + two.2.2.length ≤ 100000) : m_merged J one two = some (mgd J.2.1 J.2.2.2.1 J.2.2.2.2 one two) := by
  unfold m_merged mgd
  rw [mrg_ok h]
  cases mrg J.2.1 J.2.2.2.1 J.2.2.2.2 one.2.2 two.2.2 <;> rfl
theorem merged1_ok {J : Wn} {one two : Out} (h : J.2.2.2.2.length + one.2.2.length + two.2.2.length ≤ 100000) : m_merged__1 J one two = some (mgd J.2.1 J.2.2.2.1 J.2.2.2.2 one two) := by
  unfold m_merged__1 mgd
  rw [mrg_ok h]
  cases mrg J.2.1 J.2.2.2.1 J.2.2.2.2 one.2.2 two.2.2 <;> rfl
theorem merged2_ok {J : Wn} {one two : OutC} (h : J.2.2.2.2.length + one.2.2.length + two.2.2.length ≤ 100000) : m_merged__2 J one two = some (mgd J.2.1 J.2.2.2.1 J.2.2.2.2 one two) := by
  unfold m_merged__2 mgd
  rw [mrg_ok h]
  cases mrg J.2.1 J.2.2.2.1 J.2.2.2.2 one.2.2 two.2.2 <;> rfl
/-! ### how long the lists grow -/
def Sz {α : Type} (t : Nat) (J : Option (α × List Int × α × List Int × List Ln)) : Prop :=
  ∀ j, J = some j → j.2.1.length ≤ t ∧ j.2.2.2.1.length ≤ t ∧ j.2.2.2.2.length ≤ 500 * t
theorem Sz_none {α : Type} (t : Nat) : Sz t (none : Option (α × List Int × α × List Int × List Ln)) := fun _ h => nomatch h
theorem Sz_mono {α : Type} {t u : Nat} {J : Option (α × List Int × α × List Int × List Ln)} (h : Sz t J) (htu : t ≤ u) : Sz u J := by
  intro j e
  have := h j e
  omega
theorem Sz_mgd {α : Type} {t : Nat} {o1 o2 : List Int} {S : List Ln} {one two : α × List Int × List Ln} (hS : S.length ≤ 500 * t) (ht : t ≤ 180)
    (h1 : one.2.1.length ≤ t + 1 ∧ one.2.2.length ≤ t + 1) (h2 : two.2.1.length ≤ t + 1 ∧ two.2.2.length ≤ t + 1) : Sz (t + 1) (mgd o1 o2 S one two) := by
  intro j e
  unfold mgd at e
  cases hm : mrg o1 o2 S one.2.2 two.2.2 with
  | none => rw [hm] at e; cases e
  | some r =>
    rw [hm] at e
    cases e
    have := mrg_len hm
    refine ⟨h1.1, h2.1, ?_⟩
    show r.length ≤ _
    omega
/-- the page's turn -/
def sideP (st : Sd) (xs : List Int) (f : Bool) : OutC := if f then (topS, [], sty st.2.1 xs) else (st, xs, [])
def jp (J : Jt) (f s : Bool) : Option Jt := mgd J.2.1 J.2.2.2.1 J.2.2.2.2 (sideP J.1 J.2.1 f) (sideP J.2.2.1 J.2.2.2.1 s)
theorem sideP_len (st : Sd) (xs : List Int) (f : Bool) : (sideP st xs f).2.1.length ≤ xs.length ∧ (sideP st xs f).2.2.length ≤ xs.length := by
  unfold sideP; cases f <;> simp [sty_len]
theorem page_none (f s : Bool) : m_joint_page none f s = some none := rfl
theorem page_ok {t : Nat} {J : Jt} (f s : Bool) (h : Sz t (some J)) (ht : t ≤ 180) : m_joint_page (some J) f s = some (jp J f s) := by
  obtain ⟨h1, h2, h3⟩ := h J rfl
  unfold m_joint_page
  rw [if_neg (by simp)]
  have e1 : (if f = true then (Option.bind (some J) fun j7 => Option.bind (some J) fun j8 => Option.bind (m_fresh_side j7.1 j8.2.1) fun r2 => some r2) else (some (J.1, J.2.1, ([] : List Ln)))) = some (sideP J.1 J.2.1 f) := by
    cases f
    · rfl
    · have := fresh_ok J.1 (xs := J.2.1) (by omega)
      simp [this, sideP]
  have e2 : (if s = true then (Option.bind (some J) fun j7 => Option.bind (some J) fun j8 => Option.bind (m_fresh_side j7.2.2.1 j8.2.2.2.1) fun r2 => some r2) else (some (J.2.2.1, J.2.2.2.1, ([] : List Ln)))) = some (sideP J.2.2.1 J.2.2.2.1 s) := by
    cases s
    · rfl
    · have := fresh_ok J.2.2.1 (xs := J.2.2.2.1) (by omega)
      simp [this, sideP]
  have l1 := sideP_len J.1 J.2.1 f
  have l2 := sideP_len J.2.2.1 J.2.2.2.1 s
  refine bindOk rfl (bindOk rfl (bindOk rfl (bindOk rfl (bindOk e1 (bindOk e2 (bindOk rfl (bindOk (merged_ok ?_) rfl)))))))
  omega
theorem Sz_page {t : Nat} {J : Jt} (f s : Bool) (h : Sz t (some J)) (ht : t ≤ 180) : Sz (t + 1) (jp J f s) := by
  obtain ⟨h1, h2, h3⟩ := h J rfl
  have l1 := sideP_len J.1 J.2.1 f
  have l2 := sideP_len J.2.2.1 J.2.2.2.1 s
  exact Sz_mgd h3 ht (by omega) (by omega)
theorem page_tot {t : Nat} {J : Option Jt} (f s : Bool) (h : Sz t J) (ht : t ≤ 180) : ∃ K, m_joint_page J f s = some K ∧ Sz (t + 1) K := by
  cases J with
  | none => exact ⟨none, rfl, Sz_none _⟩
  | some J => exact ⟨_, page_ok f s h ht, Sz_page f s h ht⟩
/-- a line -/
theorem line_tot {t : Nat} {W : Option Wn} (lens : Int × Int) (sp : Int × Int) (b : Bool × Bool) (h : Sz t W) (ht : t ≤ 180) : ∃ K, m_joint_line lens W sp b = some K ∧ Sz (t + 1) K := by
  cases W with
  | none => exact ⟨none, rfl, Sz_none _⟩
  | some J =>
    obtain ⟨h1, h2, h3⟩ := h J rfl
    obtain ⟨o1, e1, k1⟩ := side_line_ok lens.1 (J.1, J.2.1) sp.1 b.1 (t := t) h1 (by omega)
    obtain ⟨o2, e2, k2⟩ := side_line_ok lens.2 (J.2.2.1, J.2.2.2.1) sp.2 b.2 (t := t) h2 (by omega)
    refine ⟨_, (if_neg (by simp)).trans (bindOk rfl (bindOk rfl (bindOk e1 (bindOk rfl (bindOk rfl (bindOk e2 (bindOk rfl (bindOk (merged1_ok ?_) rfl)))))))), Sz_mgd h3 ht k1 k2⟩
    have := k1.2; have := k2.2; omega
theorem close_tot {t : Nat} {W : Option Wn} (lens : Int × Int) (v w : Int × Int × Int × Bool × Bool × Bool) (h : Sz t W) (ht : t ≤ 180) : ∃ K, m_joint_close lens W v w = some K ∧ Sz (t + 1) K := by
  cases W with
  | none => exact ⟨none, rfl, Sz_none _⟩
  | some J =>
    obtain ⟨h1, h2, h3⟩ := h J rfl
    obtain ⟨o1, e1, k1⟩ := close_side_ok lens.1 (J.1, J.2.1) v.2.2.2.1 (t := t) h1 (by omega)
    obtain ⟨o2, e2, k2⟩ := close_side_ok lens.2 (J.2.2.1, J.2.2.2.1) w.2.2.2.1 (t := t) h2 (by omega)
    refine ⟨_, (if_neg (by simp)).trans (bindOk rfl (bindOk rfl (bindOk e1 (bindOk rfl (bindOk rfl (bindOk e2 (bindOk rfl (bindOk (merged2_ok ?_) rfl)))))))), Sz_mgd h3 ht k1 k2⟩
    have := k1.2; have := k2.2; omega
theorem folM_cnt {α σ : Type} {f : σ → α → Option σ} (P : Nat → σ → Prop) : ∀ (xs : List α) (s : σ) (t : Nat), P t s → (∀ x ∈ xs, ∀ s u, u < t + xs.length → P u s → ∃ s', f s x = some s' ∧ P (u + 1) s') → ∃ s', folM f xs s = some s' ∧ P (t + xs.length) s'
  | [], s, t, h, _ => ⟨s, rfl, h⟩
  | x :: xs, s, t, h, hs => by
    obtain ⟨s1, h1, p1⟩ := hs x (List.mem_cons_self ..) s t (by simp) h
    obtain ⟨s2, h2, p2⟩ := folM_cnt P xs s1 (t + 1) p1 fun y hy s u hu => hs y (List.mem_cons_of_mem _ hy) s u (by simp; omega)
    refine ⟨s2, bindOk h1 h2, ?_⟩
    have e : t + (x :: xs).length = t + 1 + xs.length := by simp; omega
    rw [e]; exact p2
theorem rules_tot (J : Jt) (x : Int) (l : Bool) (v w : Int × Int × Int × Bool × Bool × Bool) : ∃ r, m_line_rules J x l v w = some r := by
  unfold m_line_rules
  split <;> exact ⟨_, rfl⟩
theorem lines_tot {t : Nat} {J : Jt} (lens : Int × Int) {n : Int} (hn : 0 ≤ n ∧ n ≤ 6) (v w : Int × Int × Int × Bool × Bool × Bool) (h : Sz t (some J)) (ht : t ≤ 170) : ∃ K, m_joint_lines lens J n v w = some K ∧ Sz (t + 7) K := by
  have h0 : Sz t (some (J.1.2.1, J.2.1, J.2.2.1.2.1, J.2.2.2.1, J.2.2.2.2)) := by
    intro j e; cases e; exact h J rfl
  have hl : ((List.range n.toNat).map fun (i : Nat) => (i : Int)).length = n.toNat := by simp
  obtain ⟨W, hW, hz⟩ := folM_cnt (f := m_joint_lines_b1 lens J n v w) (fun t s => Sz t s) ((List.range n.toNat).map fun (i : Nat) => (i : Int)) _ t h0 (by
    intro x _ s u hu hs
    obtain ⟨r, hr⟩ := rules_tot J x (decide (x = n - 1)) v w
    obtain ⟨K, hK, hk⟩ := line_tot lens r.1 r.2 hs (by omega)
    exact ⟨K, bindOk hr (bindOk hK rfl), hk⟩)
  obtain ⟨K, hK, hk⟩ := close_tot lens v w hz (by omega)
  exact ⟨K, bindOk rfl (bindOk (rngM_ok hn.1 (by omega)) (bindOk hW (bindOk hK rfl))), Sz_mono hk (by omega)⟩
theorem pages_of_eq (J : Option Jt) (v w : Int × Int × Int × Bool × Bool × Bool) : m_joint_pages_of J v w = m_joint_page J (v.2.2.2.2.1 && (!v.2.2.2.2.2)) (w.2.2.2.2.1 && (!w.2.2.2.2.2)) := by
  unfold m_joint_pages_of
  generalize m_joint_page J _ _ = x
  cases x <;> rfl
theorem block_tot {t : Nat} {J : Option Jt} (lens : Int × Int) {n : Int} (hn : 0 ≤ n ∧ n ≤ 6) (v w : Int × Int × Int × Bool × Bool × Bool) (h : Sz t J) (ht : t ≤ 160) : ∃ K, m_joint_block lens J n v w = some K ∧ Sz (t + 8) K := by
  unfold m_joint_block
  rw [pages_of_eq]
  obtain ⟨K, hK, hk⟩ := page_tot (v.2.2.2.2.1 && (!v.2.2.2.2.2)) (w.2.2.2.2.1 && (!w.2.2.2.2.2)) h (by omega)
  rw [hK]
  by_cases c1 : ((decide (K = none)) || ((decide (n = (0 : Int))) || (v.2.2.2.2.2 && w.2.2.2.2.2))) = true
  · exact ⟨K, if_pos c1, Sz_mono hk (by omega)⟩
  by_cases c2 : (v.2.2.2.2.2 || w.2.2.2.2.2) = true
  · exact ⟨none, (if_neg c1).trans (if_pos c2), Sz_none _⟩
  cases K with
  | none => exact absurd (by simp) c1
  | some K =>
    obtain ⟨L, hL, hl⟩ := lines_tot lens hn v w hk (by omega)
    exact ⟨L, (if_neg c1).trans ((if_neg c2).trans (bindOk rfl (bindOk hL rfl))), Sz_mono hl (by omega)⟩
theorem begin_ok : m_joint_begin = some (some (topS, [], topS, [], [])) :=
  bindOk (szM_ok (by simp)) (bindOk (szM_ok (by simp)) (bindOk (szM_ok (by simp)) rfl))
/-! ### the draws -/
abbrev Vl := Int × Int × Int × Bool × Bool × Bool
theorem values_ok {b : List Int} (hb : BagOk b) : ∃ v b', m_law_values b = some (v, b') ∧ BagOk b' ∧ 0 ≤ v.2.2.1 := by
  obtain ⟨x1, b1, e1, _, _, k1⟩ := draw_ok hb (n := 3) (by decide) (by decide)
  obtain ⟨x2, b2, e2, _, _, k2⟩ := draw_ok k1 (n := 2) (by decide) (by decide)
  obtain ⟨x3, b3, e3, _, _, k3⟩ := draw_ok k2 (n := 8) (by decide) (by decide)
  obtain ⟨x4, b4, e4, _, _, k4⟩ := draw_ok k3 (n := 3) (by decide) (by decide)
  obtain ⟨x5, b5, e5, _, _, k5⟩ := draw_ok k4 (n := 12) (by decide) (by decide)
  exact ⟨_, _, bindOk e1 (bindOk e2 (bindOk e3 (bindOk e4 (bindOk e5 rfl)))), k5, by assumption⟩
end Mr

set_option linter.all false
set_option maxRecDepth 100000
set_option maxHeartbeats 1000000
set_option synthInstance.maxSize 4000
set_option synthInstance.maxHeartbeats 400000
/-! the joint standings: what stays true of them. -/
namespace Mr
/-! ### pending offsets -/
def Ofs (xs : List Int) : Prop := xs.Pairwise (· < ·) ∧ ∀ h : xs ≠ [], xs.head h = 0
theorem br_nil : br [] = 0 := rfl
theorem br_cons (a : Int) (xs : List Int) : br (a :: xs) = (a :: xs).getLast (by simp) + 1 := by simp [br]
theorem asc_last : ∀ (xs : List Int) (a : Int), (a :: xs).Pairwise (· < ·) → a + xs.length ≤ (a :: xs).getLast (by simp) ∧ ∀ x ∈ a :: xs, a ≤ x ∧ x ≤ (a :: xs).getLast (by simp)
  | [], a, _ => ⟨by simp, by intro x hx; simp at hx; subst hx; simp⟩
  | b :: ys, a, h => by
    have h2 := List.pairwise_cons.mp h
    have hab : a < b := h2.1 b (by simp)
    obtain ⟨i1, i2⟩ := asc_last ys b h2.2
    have e : (a :: b :: ys).getLast (by simp) = (b :: ys).getLast (by simp) := by simp
    rw [e]
    refine ⟨by simp only [List.length_cons]; push_cast; omega, ?_⟩
    intro x hx
    rcases List.mem_cons.mp hx with rfl | hx
    · have := i2 b (by simp); exact ⟨Int.le_refl _, by omega⟩
    · have := i2 x hx; exact ⟨by omega, this.2⟩
theorem ofs_len {xs : List Int} (h : Ofs xs) : (xs.length : Int) ≤ br xs := by
  cases xs with
  | nil => simp [br]
  | cons a xs =>
    have h0 := h.2 (by simp)
    simp at h0
    have := (asc_last xs a h.1).1
    rw [br_cons]
    simp only [List.length_cons]; push_cast; omega
theorem ofs_mem {xs : List Int} (h : Ofs xs) {x : Int} (hx : x ∈ xs) : 0 ≤ x ∧ x + 1 ≤ br xs := by
  cases xs with
  | nil => cases hx
  | cons a xs =>
    have h0 := h.2 (by simp)
    simp at h0
    have := (asc_last xs a h.1).2 x hx
    rw [br_cons]
    omega
theorem br_pos {xs : List Int} (h : Ofs xs) (hx : xs ≠ []) : 1 ≤ br xs := by
  have := ofs_len h
  have : 0 < xs.length := List.length_pos_iff.mpr hx
  omega
theorem ofs_nil : Ofs [] := ⟨List.Pairwise.nil, fun h => absurd rfl h⟩
theorem ofs_one : Ofs [0] := ⟨by simp, by simp⟩
theorem ofs_add {xs : List Int} (h : Ofs xs) (hx : xs ≠ []) {y : Int} (hy : br xs ≤ y) : Ofs (xs ++ [y]) := by
  refine ⟨?_, ?_⟩
  · refine List.pairwise_append.mpr ⟨h.1, by simp, ?_⟩
    intro a ha b hb
    have := ofs_mem h ha
    simp at hb
    subst hb
    omega
  · intro _
    rw [List.head_append_of_ne_nil hx]
    exact h.2 hx
theorem br_add (xs : List Int) (y : Int) : br (xs ++ [y]) = y + 1 := by simp [br]
/-- within a block: rows and pending lines of a side -/
def InW (len : Int) (rows : Int) (xs : List Int) : Prop := 0 ≤ rows ∧ rows ≤ len ∧ Ofs xs ∧ (xs ≠ [] → br xs < rows)
def LnOk (l : Ln) : Prop := 0 ≤ l.2 ∧ l.2 ≤ 3 ∧ (l.1 = true → l.2 = 0)
theorem inw_nil {len rows : Int} (h : 0 ≤ rows ∧ rows ≤ len) : InW len rows [] := ⟨h.1, h.2, ofs_nil, fun h => absurd rfl h⟩
theorem inw_len {len rows : Int} {xs : List Int} (h : InW len rows xs) (hl : len ≤ 4) : xs.length ≤ 3 := by
  by_cases e : xs = []
  · subst e; simp
  · have := ofs_len h.2.2.1
    have := h.2.2.2 e
    have := h.2.1
    omega
theorem inw_zero {len : Int} {xs : List Int} (h : InW len 0 xs) : xs = [] := by
  by_cases e : xs = []
  · exact e
  · have := h.2.2.2 e
    have := br_pos h.2.2.1 e
    omega
theorem sty_ln {len rows : Int} {xs : List Int} (h : InW len rows xs) (hl : len ≤ 4) : ∀ l ∈ sty rows xs, LnOk l := by
  intro l hm
  obtain ⟨x, hx, rfl⟩ := List.mem_map.mp hm
  have := ofs_mem h.2.2.1 hx
  have := h.2.2.2 (by intro e; rw [e] at hx; cases hx)
  have := h.2.1
  refine ⟨?_, ?_, fun e => by cases e⟩ <;> dsimp only <;> omega
theorem gov_ln {len rows : Int} {xs : List Int} (h : InW len rows xs) (hl : len ≤ 4) : ∀ l ∈ gov xs, LnOk l := by
  intro l hm
  obtain ⟨p, hp, rfl⟩ := List.mem_map.mp hm
  obtain ⟨i, hi⟩ := List.getElem?_of_mem hp
  rw [enumM_get] at hi
  cases hx : xs[i]? with
  | none => rw [hx] at hi; cases hi
  | some x =>
    rw [hx] at hi
    cases hi
    have hm : x ∈ xs := List.mem_of_getElem? hx
    have hne : xs ≠ [] := by intro e; rw [e] at hm; cases hm
    have := ofs_mem h.2.2.1 hm
    have := h.2.2.2 hne
    have := h.2.1
    refine ⟨by dsimp only; omega, by dsimp only; omega, ?_⟩
    intro e
    dsimp only at e ⊢
    have hi0 : i = 0 := by have := of_decide_eq_true e; omega
    subst hi0
    have h0 := h.2.2.1.2 hne
    cases xs with
    | nil => cases hm
    | cons a xs => simp at hx h0; omega
theorem mem1 {P : Ln → Prop} {xs : List Ln} {y : Ln} (h : ∀ l ∈ xs, P l) (hy : P y) : ∀ l ∈ xs ++ [y], P l := by
  intro l hl
  rcases List.mem_append.mp hl with h1 | h1
  · exact h l h1
  · rw [List.mem_singleton.mp h1]; exact hy
theorem mem0 {P : Ln → Prop} {y : Ln} (hy : P y) : ∀ l ∈ [y], P l := by
  intro l hl
  rw [List.mem_singleton.mp hl]; exact hy
theorem memn {P : Ln → Prop} : ∀ l ∈ ([] : List Ln), P l := fun _ h => nomatch h
theorem tt0 : LnOk (true, 0) := ⟨by decide, by decide, fun _ => rfl⟩
/-- what a side's line gives -/
def LOk (len : Int) (xs : List Int) (o : Out) : Prop := InW len o.1 o.2.1 ∧ 1 ≤ o.1 ∧ (∀ l ∈ o.2.2, LnOk l) ∧ o.2.1.length + o.2.2.length = xs.length + 1
theorem side_line_in {len : Int} {side : Int × List Int} {sp : Int} (b : Bool) (hl : 2 ≤ len ∧ len ≤ 4) (hs : 0 ≤ sp) (h : InW len side.1 side.2) : ∃ o, m_side_line len side sp b = some o ∧ LOk len side.2 o := by
  obtain ⟨rows, xs⟩ := side
  dsimp only at h ⊢
  have z : szM ([] : List Int) = some [] := szM_ok (by simp)
  have hlen := inw_len h hl.2
  obtain ⟨h0, hle, ho, hb⟩ := id h
  unfold m_side_line
  dsimp only
  by_cases h1 : decide (rows = (0 : Int)) = true
  · have e : rows = 0 := of_decide_eq_true h1
    subst e
    have := inw_zero h
    subst this
    exact ⟨_, (if_pos h1).trans (bindOk z rfl), inw_nil (by dsimp only; omega), by dsimp only; omega, mem0 tt0, by simp⟩
  rw [if_neg h1]
  have hr : 1 ≤ rows := by
    have : ¬ rows = 0 := fun e => h1 (decide_eq_true e)
    omega
  by_cases h2 : decide (((rows + sp) + (1 : Int)) ≤ len) = true
  · have h2' := of_decide_eq_true h2
    rw [if_pos h2]
    unfold m_fitting
    cases b
    · refine ⟨_, bindOk ((if_pos rfl).trans (bindOk (szM_ok (by simp)) (bindOk (staying_ok rows (by omega)) rfl))) rfl, ?_, ?_, ?_, ?_⟩
      · refine ⟨by dsimp only; omega, by dsimp only; omega, ofs_one, fun _ => ?_⟩
        show br [0] < _
        have : br [0] = 1 := rfl
        dsimp only; omega
      · dsimp only; omega
      · exact sty_ln h hl.2
      · dsimp only; rw [sty_len]; simp; omega
    · rw [if_neg (by simp)]
      by_cases hx : xs = []
      · subst hx
        refine ⟨_, bindOk ((if_neg (by simp)).trans (bindOk z rfl)) rfl, inw_nil (by dsimp only; omega), by dsimp only; omega, mem0 ⟨by dsimp only; omega, by dsimp only; omega, fun e => by cases e⟩, by simp⟩
      · have hxe : (!xs.isEmpty) = true := by cases xs <;> simp_all
        have hbr : xs.getLast hx + 1 = br xs := by unfold br; rw [dif_neg hx]
        refine ⟨_, bindOk ((if_pos hxe).trans (bindOk (getM_last hx) (bindOk (szM_ok (by simp; omega)) rfl))) rfl, ?_, ?_, memn, ?_⟩
        · refine ⟨by dsimp only; omega, by dsimp only; omega, ofs_add ho hx (by omega), fun _ => ?_⟩
          dsimp only
          rw [br_add]
          have := hb hx
          omega
        · dsimp only; omega
        · simp
  rw [if_neg h2]
  cases b
  · exact ⟨_, (if_pos rfl).trans (bindOk z (bindOk (staying_ok rows (by omega)) (bindOk (catM_ok (by simp [sty_len]; omega)) rfl))), inw_nil (by dsimp only; omega), by dsimp only; omega, mem1 (sty_ln h hl.2) tt0, by simp [sty_len]⟩
  rw [if_neg (by simp)]
  by_cases hx : xs = []
  · subst hx
    exact ⟨_, (if_pos (by simp)).trans (bindOk z rfl), inw_nil (by dsimp only; omega), by dsimp only; omega, mem0 tt0, by simp⟩
  have hxe : ¬ (!(!xs.isEmpty)) = true := by cases xs <;> simp_all
  have hbp := br_pos ho hx
  rw [if_neg hxe, going_over_ok (by omega), back_rows_ok]
  by_cases h5 : decide (((br xs + sp) + (1 : Int)) ≤ len) = true
  · have h5' := of_decide_eq_true h5
    exact ⟨_, (if_pos h5).trans (bindOk z (bindOk (catM_ok (by simp [gov_len]; omega)) rfl)), inw_nil (by dsimp only; omega), by dsimp only; omega, mem1 (gov_ln h hl.2) ⟨by dsimp only; omega, by dsimp only; omega, fun e => by cases e⟩, by simp [gov_len]⟩
  · exact ⟨_, (if_neg h5).trans (bindOk z (bindOk (catM_ok (by simp [gov_len]; omega)) rfl)), inw_nil (by dsimp only; omega), by dsimp only; omega, mem1 (gov_ln h hl.2) tt0, by simp [gov_len]⟩
/-- a side between blocks -/
def IsSd (len : Int) (st : Sd) (xs : List Int) : Prop :=
  (st = topS ∧ xs = []) ∨ (st.1 = Wd.opn ∧ st.2.2 = 0 ∧ 1 ≤ st.2.1 ∧ st.2.1 < len ∧ xs = []) ∨ (st.1 = Wd.kept ∧ 1 ≤ st.2.1 ∧ st.2.2 = br xs ∧ InW len st.2.1 xs ∧ ¬ (st.2.1 = len ∧ xs = []))
theorem sd_in {len : Int} {st : Sd} {xs : List Int} (hl : 2 ≤ len) (h : IsSd len st xs) : InW len st.2.1 xs := by
  rcases h with ⟨rfl, rfl⟩ | ⟨_, _, h1, h2, rfl⟩ | ⟨_, _, _, h, _⟩
  · exact inw_nil ⟨by decide, by show (0 : Int) ≤ len; omega⟩
  · exact inw_nil ⟨by omega, by omega⟩
  · exact h
def COk (len : Int) (xs : List Int) (o : OutC) : Prop := IsSd len o.1 o.2.1 ∧ (∀ l ∈ o.2.2, LnOk l) ∧ o.2.1.length + o.2.2.length = xs.length
theorem close_side_in {len : Int} {side : Int × List Int} (b : Bool) (hl : 2 ≤ len ∧ len ≤ 4) (h : InW len side.1 side.2) (hr : 1 ≤ side.1) : ∃ o, m_close_side len side b = some o ∧ COk len side.2 o := by
  obtain ⟨rows, xs⟩ := side
  dsimp only at h hr ⊢
  have z : szM ([] : List Int) = some [] := szM_ok (by simp)
  have hlen := inw_len h hl.2
  unfold m_close_side
  dsimp only
  cases b
  · rw [if_neg (by simp), staying_ok rows (by omega)]
    by_cases h3 : decide (rows = len) = true
    · exact ⟨_, (if_pos h3).trans (bindOk z rfl), .inl ⟨rfl, rfl⟩, sty_ln h hl.2, by simp [sty_len]⟩
    · have h3' : ¬ rows = len := fun e => h3 (decide_eq_true e)
      have := h.2.1
      exact ⟨_, (if_neg h3).trans (bindOk z rfl), .inr (.inl ⟨rfl, rfl, hr, by dsimp only; omega, rfl⟩), sty_ln h hl.2, by simp [sty_len]⟩
  · rw [if_pos rfl]
    by_cases h2 : ((decide (rows = len)) && (!(!xs.isEmpty))) = true
    · have hx : xs = [] := by
        have := (Bool.and_eq_true _ _).mp h2
        cases xs with
        | nil => rfl
        | cons _ _ => simp at this
      subst hx
      exact ⟨_, (if_pos h2).trans (bindOk z rfl), .inl ⟨rfl, rfl⟩, memn, by simp⟩
    · refine ⟨_, (if_neg h2).trans (bindOk (back_rows_ok _) rfl), .inr (.inr ⟨rfl, hr, rfl, h, ?_⟩), memn, by simp⟩
      rintro ⟨e1, e2⟩
      dsimp only at e1 e2
      subst e2
      exact h2 (by simp [e1])
theorem sideP_in {len : Int} {st : Sd} {xs : List Int} (f : Bool) (hl : 2 ≤ len ∧ len ≤ 4) (h : IsSd len st xs) : COk len xs (sideP st xs f) := by
  cases f
  · exact ⟨h, memn, by simp [sideP]⟩
  · exact ⟨.inl ⟨rfl, rfl⟩, sty_ln (sd_in hl.1 h) hl.2, by simp [sideP, sty_len]⟩
/-! ### settled lines -/
def StOk (o1 o2 : List Int) (S : List Ln) : Prop := (∀ l ∈ S, LnOk l) ∧ (S.length : Int) = ((o1.length : Int) - (o2.length : Int)).natAbs
theorem setl_ok {o1 o2 : List Int} {S : List Ln} (h : StOk o1 o2 S) : (∀ l ∈ (setl o1 o2 S).1, LnOk l) ∧ (∀ l ∈ (setl o1 o2 S).2, LnOk l) ∧ (setl o1 o2 S).1.length + o1.length = (setl o1 o2 S).2.length + o2.length := by
  unfold setl
  have := h.2
  split
  · exact ⟨h.1, memn, by simp; omega⟩
  · exact ⟨memn, h.1, by simp; omega⟩
theorem mrg_st {o1 o2 p1 p2 : List Int} {S a b r : List Ln} {c : Nat} (h : StOk o1 o2 S) (ha : ∀ l ∈ a, LnOk l) (hb : ∀ l ∈ b, LnOk l) (h1 : p1.length + a.length = o1.length + c) (h2 : p2.length + b.length = o2.length + c)
    (hr : mrg o1 o2 S a b = some r) : StOk p1 p2 r := by
  obtain ⟨k1, k2, k3⟩ := setl_ok h
  have e := mtc_drop hr
  constructor
  · intro l hl
    rw [e] at hl
    rcases List.mem_append.mp hl with hl | hl
    · rcases List.mem_append.mp (List.mem_of_mem_drop hl) with hl | hl
      · exact k1 l hl
      · exact ha l hl
    · rcases List.mem_append.mp (List.mem_of_mem_drop hl) with hl | hl
      · exact k2 l hl
      · exact hb l hl
  · rw [e]
    simp only [List.length_append, List.length_drop]
    omega
theorem st_nil : StOk [] [] [] := ⟨memn, rfl⟩
/-- the whole -/
abbrev LnsOk (lens : Int × Int) : Prop := (2 ≤ lens.1 ∧ lens.1 ≤ 4) ∧ (2 ≤ lens.2 ∧ lens.2 ≤ 4)
def JOk (lens : Int × Int) (j : Jt) : Prop := IsSd lens.1 j.1 j.2.1 ∧ IsSd lens.2 j.2.2.1 j.2.2.2.1 ∧ StOk j.2.1 j.2.2.2.1 j.2.2.2.2
def WOk (lens : Int × Int) (p : Bool) (j : Wn) : Prop := InW lens.1 j.1 j.2.1 ∧ InW lens.2 j.2.2.1 j.2.2.2.1 ∧ StOk j.2.1 j.2.2.2.1 j.2.2.2.2 ∧ (p = true → 1 ≤ j.1 ∧ 1 ≤ j.2.2.1)
def Opt {α : Type} (P : α → Prop) (o : Option α) : Prop := ∀ x, o = some x → P x
theorem opt_none {α : Type} {P : α → Prop} : Opt P none := fun _ h => nomatch h
theorem opt_mgd {α : Type} {P : α × List Int × α × List Int × List Ln → Prop} {o1 o2 : List Int} {S : List Ln} {one two : α × List Int × List Ln}
    (h : ∀ r, mrg o1 o2 S one.2.2 two.2.2 = some r → P (one.1, one.2.1, two.1, two.2.1, r)) : Opt P (mgd o1 o2 S one two) := by
  intro x e
  unfold mgd at e
  cases hm : mrg o1 o2 S one.2.2 two.2.2 with
  | none => rw [hm] at e; cases e
  | some r => rw [hm] at e; cases e; exact h r hm
theorem jok_sz {lens : Int × Int} {j : Jt} (hl : LnsOk lens) (h : JOk lens j) : Sz 3 (some j) := by
  intro k e
  cases e
  have h1 := inw_len (sd_in hl.1.1 h.1) hl.1.2
  have h2 := inw_len (sd_in hl.2.1 h.2.1) hl.2.2
  have h3 := h.2.2.2
  exact ⟨h1, h2, by omega⟩
theorem page_in {lens : Int × Int} {j : Jt} (f s : Bool) (hl : LnsOk lens) (h : JOk lens j) : m_joint_page (some j) f s = some (jp j f s) ∧ Opt (JOk lens) (jp j f s) := by
  refine ⟨page_ok f s (jok_sz hl h) (by decide), opt_mgd fun r hr => ?_⟩
  have c1 := sideP_in f hl.1 h.1
  have c2 := sideP_in s hl.2 h.2.1
  exact ⟨c1.1, c2.1, mrg_st (c := 0) h.2.2 c1.2.1 c2.2.1 c1.2.2 c2.2.2 hr⟩
theorem line_in {lens : Int × Int} {p : Bool} {W : Option Wn} (sp : Int × Int) (b : Bool × Bool) (hl : LnsOk lens) (hs : 0 ≤ sp.1 ∧ 0 ≤ sp.2) (h : Opt (WOk lens p) W) : ∃ K, m_joint_line lens W sp b = some K ∧ Opt (WOk lens true) K := by
  cases W with
  | none => exact ⟨none, rfl, opt_none⟩
  | some j =>
    obtain ⟨h1, h2, h3, _⟩ := h j rfl
    obtain ⟨o1, e1, k1⟩ := side_line_in (side := (j.1, j.2.1)) b.1 hl.1 hs.1 h1
    obtain ⟨o2, e2, k2⟩ := side_line_in (side := (j.2.2.1, j.2.2.2.1)) b.2 hl.2 hs.2 h2
    have l1 := inw_len h1 hl.1.2
    have l2 := inw_len h2 hl.2.2
    have l3 := h3.2
    have q1 := k1.2.2.2
    have q2 := k2.2.2.2
    dsimp only at q1 q2
    refine ⟨_, (if_neg (by simp)).trans (bindOk rfl (bindOk rfl (bindOk e1 (bindOk rfl (bindOk rfl (bindOk e2 (bindOk rfl (bindOk (merged1_ok ?_) rfl)))))))), opt_mgd fun r hr => ?_⟩
    · omega
    · exact ⟨k1.1, k2.1, mrg_st (c := 1) h3 k1.2.2.1 k2.2.2.1 q1 q2 hr, fun _ => ⟨k1.2.1, k2.2.1⟩⟩
theorem close_in {lens : Int × Int} {W : Option Wn} (v w : Vl) (hl : LnsOk lens) (h : Opt (WOk lens true) W) : ∃ K, m_joint_close lens W v w = some K ∧ Opt (JOk lens) K := by
  cases W with
  | none => exact ⟨none, rfl, opt_none⟩
  | some j =>
    obtain ⟨h1, h2, h3, h4⟩ := h j rfl
    obtain ⟨o1, e1, k1⟩ := close_side_in (side := (j.1, j.2.1)) v.2.2.2.1 hl.1 h1 (h4 rfl).1
    obtain ⟨o2, e2, k2⟩ := close_side_in (side := (j.2.2.1, j.2.2.2.1)) w.2.2.2.1 hl.2 h2 (h4 rfl).2
    have l1 := inw_len h1 hl.1.2
    have l2 := inw_len h2 hl.2.2
    have l3 := h3.2
    have q1 := k1.2.2
    have q2 := k2.2.2
    dsimp only at q1 q2
    refine ⟨_, (if_neg (by simp)).trans (bindOk rfl (bindOk rfl (bindOk e1 (bindOk rfl (bindOk rfl (bindOk e2 (bindOk rfl (bindOk (merged2_ok ?_) rfl)))))))), opt_mgd fun r hr => ?_⟩
    · omega
    · exact ⟨k1.1, k2.1, mrg_st (c := 0) h3 k1.2.1 k2.2.1 q1 q2 hr⟩
theorem rules_in (J : Jt) (x : Int) (l : Bool) (v w : Vl) (hv : 0 ≤ v.2.2.1) (hw : 0 ≤ w.2.2.1) : ∃ r, m_line_rules J x l v w = some r ∧ 0 ≤ r.1.1 ∧ 0 ≤ r.1.2 := by
  unfold m_line_rules
  split
  · exact ⟨_, rfl, hv, hw⟩
  · exact ⟨_, rfl, Int.le_refl 0, Int.le_refl 0⟩
theorem lines_in {lens : Int × Int} {J : Jt} (hl : LnsOk lens) {n : Int} (hn : 1 ≤ n ∧ n ≤ 6) (v w : Vl) (hv : 0 ≤ v.2.2.1) (hw : 0 ≤ w.2.2.1) (h : JOk lens J) : ∃ K, m_joint_lines lens J n v w = some K ∧ Opt (JOk lens) K := by
  have h0 : Opt (WOk lens false) (some (J.1.2.1, J.2.1, J.2.2.1.2.1, J.2.2.2.1, J.2.2.2.2)) := by
    intro j e; cases e; exact ⟨sd_in hl.1.1 h.1, sd_in hl.2.1 h.2.1, h.2.2, fun e => by cases e⟩
  have hll : ((List.range n.toNat).map fun (i : Nat) => (i : Int)).length = n.toNat := by simp
  obtain ⟨W, hW, hz⟩ := folM_cnt (f := m_joint_lines_b1 lens J n v w) (fun t s => Opt (WOk lens (decide (0 < t))) s) ((List.range n.toNat).map fun (i : Nat) => (i : Int)) _ 0 h0 (by
    intro x _ s u hu hs
    obtain ⟨r, hr, r1, r2⟩ := rules_in J x (decide (x = n - 1)) v w hv hw
    obtain ⟨K, hK, hk⟩ := line_in r.1 r.2 hl ⟨r1, r2⟩ hs
    refine ⟨K, bindOk hr (bindOk hK rfl), ?_⟩
    rw [decide_eq_true (by omega)]
    exact hk)
  rw [decide_eq_true (by omega)] at hz
  obtain ⟨K, hK, hk⟩ := close_in v w hl hz
  exact ⟨K, bindOk rfl (bindOk (rngM_ok (by omega) (by omega)) (bindOk hW (bindOk hK rfl))), hk⟩
theorem block_in {lens : Int × Int} {J : Option Jt} (hl : LnsOk lens) {n : Int} (hn : 0 ≤ n ∧ n ≤ 6) (v w : Vl) (hv : 0 ≤ v.2.2.1) (hw : 0 ≤ w.2.2.1) (h : Opt (JOk lens) J) : ∃ K, m_joint_block lens J n v w = some K ∧ Opt (JOk lens) K := by
  unfold m_joint_block
  rw [pages_of_eq]
  have hp : ∃ K, m_joint_page J (v.2.2.2.2.1 && (!v.2.2.2.2.2)) (w.2.2.2.2.1 && (!w.2.2.2.2.2)) = some K ∧ Opt (JOk lens) K := by
    cases J with
    | none => exact ⟨none, rfl, opt_none⟩
    | some j => exact ⟨_, page_in _ _ hl (h j rfl)⟩
  obtain ⟨K, hK, hk⟩ := hp
  rw [hK]
  by_cases c1 : ((decide (K = none)) || ((decide (n = (0 : Int))) || (v.2.2.2.2.2 && w.2.2.2.2.2))) = true
  · exact ⟨K, if_pos c1, hk⟩
  by_cases c2 : (v.2.2.2.2.2 || w.2.2.2.2.2) = true
  · exact ⟨none, (if_neg c1).trans (if_pos c2), opt_none⟩
  cases K with
  | none => exact absurd (by simp) c1
  | some K =>
    have hn1 : 1 ≤ n := by
      have : ¬ n = 0 := fun e => c1 (by simp [e])
      omega
    obtain ⟨L, hL, hl'⟩ := lines_in hl ⟨hn1, hn.2⟩ v w hv hw (hk K rfl)
    exact ⟨L, (if_neg c1).trans ((if_neg c2).trans (bindOk rfl (bindOk hL rfl))), hl'⟩
/-! ### rows -/
abbrev RowT := Int × Vl × Vl
def RowOk (r : List RowT) : Prop := ∀ x ∈ r, (0 ≤ x.1 ∧ x.1 ≤ 6) ∧ 0 ≤ x.2.1.2.2.1 ∧ 0 ≤ x.2.2.2.2.1
theorem row_ok {b : List Int} {n : Int} (hb : BagOk b) (hn : 0 ≤ n ∧ n ≤ 9) : ∃ r b', m_law_row b n = some (r, b') ∧ BagOk b' ∧ RowOk r ∧ r.length ≤ 9 := by
  obtain ⟨x1, b1, e1, _, _, k1⟩ := draw_ok hb (n := 3) (by decide) (by decide)
  have hl : ((List.range n.toNat).map fun (i : Nat) => (i : Int)).length = n.toNat := by simp
  obtain ⟨⟨b2, r⟩, e2, k2, hr, hrl⟩ := folM_cnt (f := m_law_row_b1 x1) (fun t (s : List Int × List RowT) => BagOk s.1 ∧ RowOk s.2 ∧ s.2.length ≤ t) ((List.range n.toNat).map fun (i : Nat) => (i : Int)) (b1, []) 0 ⟨k1, (fun x hx => nomatch hx), by simp⟩ (by
    rintro x _ ⟨bb, rr⟩ u hu ⟨hbb, hrr, hl2⟩
    dsimp only at hbb hrr hl2
    have s1 : ∃ c b', (Option.bind (m_law_draw bb (3 : Int)) fun (r2, bag_here5) =>
      if (decide (r2 = (0 : Int))) then (Option.bind (m_law_draw bag_here5 (7 : Int)) fun (r3, bag_here6) => some (r3, bag_here6)) else (Option.bind (m_law_draw bag_here5 (3 : Int)) fun (r4, bag_here7) => some (r4, bag_here7))) = some (c, b') ∧ BagOk b' ∧ 0 ≤ c ∧ c ≤ 6 := by
      obtain ⟨y1, c1, f1, _, _, q1⟩ := draw_ok hbb (n := 3) (by decide) (by decide)
      obtain ⟨y2, c2, f2, _, _, q2⟩ := draw_ok q1 (n := 7) (by decide) (by decide)
      obtain ⟨y3, c3, f3, _, _, q3⟩ := draw_ok q1 (n := 3) (by decide) (by decide)
      by_cases h : decide (y1 = (0 : Int)) = true
      · exact ⟨y2, c2, bindOk f1 ((if_pos h).trans (bindOk f2 rfl)), q2, by omega, by omega⟩
      · exact ⟨y3, c3, bindOk f1 ((if_neg h).trans (bindOk f3 rfl)), q3, by omega, by omega⟩
    obtain ⟨c, c1, f1, q1, hc⟩ := s1
    obtain ⟨v, c2, f2, q2, hv⟩ := values_ok q1
    have s2 : ∃ b' w, (Option.bind (m_law_draw c2 (4 : Int)) fun (r11, bag_here16) =>
      if (decide (r11 < x1)) then (Option.bind (m_law_values bag_here16) fun (r12, bag_here17) => some (bag_here17, r12)) else (some (bag_here16, v))) = some (b', w) ∧ BagOk b' ∧ 0 ≤ w.2.2.1 := by
      obtain ⟨y1, d1, g1, _, _, p1⟩ := draw_ok q2 (n := 4) (by decide) (by decide)
      obtain ⟨y2, d2, g2, p2, hy⟩ := values_ok p1
      by_cases h : decide (y1 < x1) = true
      · exact ⟨d2, y2, bindOk g1 ((if_pos h).trans (bindOk g2 rfl)), p2, hy⟩
      · exact ⟨d1, v, bindOk g1 (if_neg h), p1, hv⟩
    obtain ⟨c3, w, f3, q3, hw⟩ := s2
    have s3 : ∃ b' m, (Option.bind (if (v.2.2.2.2.2 != w.2.2.2.2.2) then (Option.bind (m_law_draw c3 (2 : Int)) fun (r15, bag_here22) =>
      some ((decide (r15 = (1 : Int))), bag_here22)) else some (false, c3)) fun (x4, bag_here23) =>
      if x4 then (some (bag_here23, (0 : Int))) else (some (bag_here23, c))) = some (b', m) ∧ BagOk b' ∧ 0 ≤ m ∧ m ≤ 6 := by
      obtain ⟨y1, d1, g1, _, _, p1⟩ := draw_ok q3 (n := 2) (by decide) (by decide)
      by_cases h : (v.2.2.2.2.2 != w.2.2.2.2.2) = true
      · by_cases h2 : decide (y1 = (1 : Int)) = true
        · exact ⟨d1, 0, bindOk ((if_pos h).trans (bindOk g1 rfl)) (if_pos h2), p1, by omega, by omega⟩
        · exact ⟨d1, c, bindOk ((if_pos h).trans (bindOk g1 rfl)) (if_neg h2), p1, hc⟩
      · exact ⟨c3, c, bindOk (if_neg h) rfl, q3, hc⟩
    obtain ⟨c4, m, f4, q4, hm⟩ := s3
    refine ⟨(c4, rr ++ [(m, v, w)]), bindOk f1 (bindOk f2 (bindOk f3 (bindOk f4 (bindOk (appM_ok (by omega)) rfl)))), q4, ?_, ?_⟩
    · intro z hz
      rcases List.mem_append.mp hz with h | h
      · exact hrr z h
      · rw [List.mem_singleton.mp h]; exact ⟨hm, hv, hw⟩
    · simp; omega)
  exact ⟨r, b2, bindOk e1 (bindOk (rngM_ok hn.1 (by omega)) (bindOk e2 rfl)), k2, hr, by dsimp only at hrl; omega⟩
end Mr

set_option linter.all false
set_option maxRecDepth 100000
set_option maxHeartbeats 1000000
set_option synthInstance.maxSize 4000
set_option synthInstance.maxHeartbeats 400000
/-! k44: lines on pages, put one by one and put page by page. -/
namespace Mr
abbrev L3 := Int × Bool × Bool
/-- the places of the pending and the coming lines -/
def fin (len : Int) : Int → List Int → List L3 → List Ln
  | u, offs, [] => sty u offs
  | u, offs, (sp, f, b) :: t =>
    if u = 0 ∨ f = true then sty u offs ++ (true, 0) :: fin len 1 [] t
    else if u + sp + 1 ≤ len then
      (if b = false then sty u offs ++ fin len (u + sp + 1) [0] t
       else if offs = [] then (false, u + sp) :: fin len (u + sp + 1) [] t
       else fin len (u + sp + 1) (offs ++ [br offs + sp]) t)
    else if b = false ∨ offs = [] then sty u offs ++ (true, 0) :: fin len 1 [] t
    else gov offs ++ (if br offs + sp + 1 ≤ len then (false, br offs + sp) :: fin len (br offs + sp + 1) [] t else (true, 0) :: fin len 1 [] t)
theorem fin_forced (len u : Int) (offs : List Int) (sp : Int) (b : Bool) (t : List L3) : fin len u offs ((sp, true, b) :: t) = sty u offs ++ (true, 0) :: fin len 1 [] t := by
  rw [fin]; simp
theorem fin_zero (len : Int) (l : L3) (t : List L3) : fin len 0 [] (l :: t) = (true, 0) :: fin len 1 [] t := by
  obtain ⟨sp, f, b⟩ := l
  rw [fin]; simp [sty]
/-- how many of the coming lines the page holds; none: it ends ahead of the last line that is not barred -/
def cutR (len : Int) : List L3 → Int → Bool → Option Nat
  | [], _, _ => some 0
  | (sp, f, b) :: t, u, h =>
    if f = true then some 0
    else if u + sp + 1 > len then (if b = false then some 0 else if h = true then none else some 0)
    else if b = false then (match cutR len t (u + sp + 1) true with
      | none => some 0
      | some c => some (c + 1))
    else (match cutR len t (u + sp + 1) h with
      | none => none
      | some c => some (c + 1))
theorem cutR_ne (len : Int) : ∀ (ls : List L3) (u : Int), cutR len ls u false ≠ none
  | [], u => by simp [cutR]
  | (sp, f, b) :: t, u => by
    rw [cutR]
    have ih := cutR_ne len t (u + sp + 1)
    cases f with
    | true => simp
    | false =>
      by_cases h : u + sp + 1 > len
      · cases b <;> simp [h]
      · cases b with
        | false =>
          simp only [h, if_false]
          cases cutR len t (u + sp + 1) true <;> simp
        | true =>
          cases hc : cutR len t (u + sp + 1) false with
          | none => exact absurd hc ih
          | some c => simp [h]
def rowsF : Int → List L3 → List Ln
  | _, [] => []
  | r, (sp, _, _) :: t => (false, r + 1 + sp) :: rowsF (r + 1 + sp) t
theorem sty_one (u : Int) : sty u [0] = [(false, u - 1)] := by simp [sty, br]
theorem gov_one : gov [0] = [(true, 0)] := rfl
theorem sty_add (u sp : Int) {offs : List Int} : sty (u + sp + 1) (offs ++ [br offs + sp]) = sty u offs ++ [(false, u + sp)] := by
  unfold sty
  rw [br_add, List.map_append]
  congr 1
  · apply List.map_congr_left
    intro x _
    simp only [Prod.mk.injEq, true_and]; omega
  · simp only [List.map_cons, List.map_nil]
    congr 2; omega
theorem enumF_snoc {α : Type} (xs : List α) (x : α) (k : Nat) : enumF k (xs ++ [x]) = enumF k xs ++ [(((k + xs.length : Nat) : Int), x)] := by
  rw [enumF_app]; rfl
theorem gov_add {offs : List Int} (h : offs ≠ []) (y : Int) : gov (offs ++ [y]) = gov offs ++ [(false, y)] := by
  unfold gov enumM
  rw [enumF_snoc, List.map_append]
  congr 1
  simp only [List.map_cons, List.map_nil]
  have : 0 < offs.length := List.length_pos_iff.mpr h
  rw [decide_eq_false (by omega)]
/-- what fin says, page by page -/
theorem fin_page (len : Int) : ∀ (ls : List L3) (u : Int), 1 ≤ u → (∀ l ∈ ls, 0 ≤ l.1) →
    (∃ c, cutR len ls u false = some c ∧ c ≤ ls.length ∧ fin len u [] ls = rowsF (u - 1) (ls.take c) ++ fin len 0 [] (ls.drop c)) ∧
    (∀ offs : List Int, offs ≠ [] → 1 ≤ br offs → br offs < u →
      match cutR len ls u true with
      | none => fin len u offs ls = gov offs ++ fin len (br offs) [] ls
      | some c => c ≤ ls.length ∧ fin len u offs ls = sty u offs ++ rowsF (u - 1) (ls.take c) ++ fin len 0 [] (ls.drop c))
  | [], u, hu, _ => by
    refine ⟨⟨0, rfl, Nat.le_refl _, by simp [fin, rowsF, sty]⟩, fun offs _ _ _ => ?_⟩
    show 0 ≤ _ ∧ _
    exact ⟨Nat.le_refl _, by simp [fin, rowsF, sty_nil]⟩
  | (sp, f, b) :: t, u, hu, hn => by
    have hsp : 0 ≤ sp := hn (sp, f, b) (List.mem_cons_self ..)
    have hnt : ∀ l ∈ t, 0 ≤ l.1 := fun l hl => hn l (List.mem_cons_of_mem _ hl)
    have hu0 : ¬ u = 0 := by omega
    cases f with
    | true =>
      refine ⟨⟨0, by simp [cutR], by simp, ?_⟩, fun offs h1 h2 h3 => ?_⟩
      · rw [fin_forced]; simp only [List.take_zero, List.drop_zero, rowsF, List.nil_append, fin_zero, sty_nil]
      · rw [show cutR len ((sp, true, b) :: t) u true = some 0 by simp [cutR]]
        refine ⟨by simp, ?_⟩
        rw [fin_forced]; simp only [List.take_zero, List.drop_zero, rowsF, List.append_nil, fin_zero]
    | false =>
      by_cases hfit : u + sp + 1 ≤ len
      · have hng : ¬ u + sp + 1 > len := by omega
        obtain ⟨iN, iS⟩ := fin_page len t (u + sp + 1) (by omega) hnt
        have hs1 : u + sp + 1 - 1 = u + sp := by omega
        cases b with
        | false =>
          have i1 := iS [0] (by simp) (by decide) (by have : br [0] = 1 := rfl; omega)
          have cu : ∀ h, cutR len ((sp, false, false) :: t) u h = match cutR len t (u + sp + 1) true with
            | none => some 0
            | some c => some (c + 1) := by intro h; rw [cutR]; simp [hng]
          have fu : ∀ offs, fin len u offs ((sp, false, false) :: t) = sty u offs ++ fin len (u + sp + 1) [0] t := by
            intro offs; rw [fin]; simp [hu0, hfit]
          cases hc : cutR len t (u + sp + 1) true with
          | none =>
            rw [hc] at i1
            have e : fin len (u + sp + 1) [0] t = fin len 0 [] ((sp, false, false) :: t) := by
              rw [i1, fin_zero, gov_one]; rfl
            refine ⟨⟨0, by rw [cu, hc], by simp, ?_⟩, fun offs h1 h2 h3 => ?_⟩
            · rw [fu, e, sty_nil]; simp [rowsF]
            · rw [cu, hc]
              refine ⟨by simp, ?_⟩
              rw [fu, e]; simp [rowsF]
          | some c =>
            rw [hc] at i1
            obtain ⟨hcl, i2⟩ := i1
            rw [hs1, sty_one, hs1] at i2
            refine ⟨⟨c + 1, by rw [cu, hc], by simp; omega, ?_⟩, fun offs h1 h2 h3 => ?_⟩
            · rw [fu, i2, sty_nil]
              simp only [List.take_succ_cons, List.drop_succ_cons, rowsF, List.nil_append, List.cons_append]
              have : u - 1 + 1 + sp = u + sp := by omega
              rw [this]
            · rw [cu, hc]
              refine ⟨by simp; omega, ?_⟩
              rw [fu, i2]
              simp only [List.take_succ_cons, List.drop_succ_cons, rowsF, List.nil_append, List.cons_append, List.append_assoc]
              have : u - 1 + 1 + sp = u + sp := by omega
              rw [this]
        | true =>
          have cu : ∀ h, cutR len ((sp, false, true) :: t) u h = match cutR len t (u + sp + 1) h with
            | none => none
            | some c => some (c + 1) := by intro h; rw [cutR]; simp [hng]
          refine ⟨?_, fun offs h1 h2 h3 => ?_⟩
          · obtain ⟨c, hc, hcl, i2⟩ := iN
            refine ⟨c + 1, by rw [cu, hc], by simp; omega, ?_⟩
            have fu : fin len u [] ((sp, false, true) :: t) = (false, u + sp) :: fin len (u + sp + 1) [] t := by
              rw [fin]; simp [hu0, hfit]
            rw [fu, i2, hs1]
            simp only [List.take_succ_cons, List.drop_succ_cons, rowsF, List.cons_append]
            have : u - 1 + 1 + sp = u + sp := by omega
            rw [this]
          · have fu : fin len u offs ((sp, false, true) :: t) = fin len (u + sp + 1) (offs ++ [br offs + sp]) t := by
              rw [fin]; simp [hu0, hfit, h1]
            have i1 := iS (offs ++ [br offs + sp]) (by simp) (by rw [br_add]; omega) (by rw [br_add]; omega)
            rw [cu]
            cases hc : cutR len t (u + sp + 1) true with
            | none =>
              rw [hc] at i1
              show fin len u offs ((sp, false, true) :: t) = gov offs ++ fin len (br offs) [] ((sp, false, true) :: t)
              have fb : fin len (br offs) [] ((sp, false, true) :: t) = (false, br offs + sp) :: fin len (br offs + sp + 1) [] t := by
                rw [fin]
                rw [if_neg (by rintro (h | h); · omega
                               · cases h), if_pos (by omega)]
                simp
              rw [fu, i1, gov_add h1, br_add, fb]
              simp
            | some c =>
              rw [hc] at i1
              obtain ⟨hcl, i2⟩ := i1
              refine ⟨by simp; omega, ?_⟩
              rw [fu, i2, sty_add, hs1]
              simp only [List.take_succ_cons, List.drop_succ_cons, rowsF, List.nil_append, List.cons_append, List.append_assoc]
              have : u - 1 + 1 + sp = u + sp := by omega
              rw [this]
      · have hg : u + sp + 1 > len := by omega
        cases b with
        | false =>
          have fu : ∀ offs, fin len u offs ((sp, false, false) :: t) = sty u offs ++ (true, 0) :: fin len 1 [] t := by
            intro offs; rw [fin]; simp [hu0, hfit]
          have cu : ∀ h, cutR len ((sp, false, false) :: t) u h = some 0 := by intro h; rw [cutR]; simp [hg]
          refine ⟨⟨0, cu _, by simp, ?_⟩, fun offs h1 h2 h3 => ?_⟩
          · rw [fu]; simp only [List.take_zero, List.drop_zero, rowsF, List.nil_append, fin_zero, sty_nil]
          · rw [cu]
            refine ⟨by simp, ?_⟩
            rw [fu]; simp only [List.take_zero, List.drop_zero, rowsF, List.append_nil, fin_zero]
        | true =>
          refine ⟨⟨0, by rw [cutR]; simp [hg], by simp, ?_⟩, fun offs h1 h2 h3 => ?_⟩
          · have fu : fin len u [] ((sp, false, true) :: t) = sty u [] ++ (true, 0) :: fin len 1 [] t := by
              rw [fin]; simp [hu0, hfit]
            rw [fu]; simp only [List.take_zero, List.drop_zero, rowsF, List.nil_append, fin_zero, sty_nil]
          · rw [show cutR len ((sp, false, true) :: t) u true = none by rw [cutR]; simp [hg]]
            show fin len u offs ((sp, false, true) :: t) = gov offs ++ fin len (br offs) [] ((sp, false, true) :: t)
            have hb0 : ¬ br offs = 0 := by omega
            have fu : fin len u offs ((sp, false, true) :: t) = gov offs ++ (if br offs + sp + 1 ≤ len then (false, br offs + sp) :: fin len (br offs + sp + 1) [] t else (true, 0) :: fin len 1 [] t) := by
              rw [fin]; simp [hu0, hfit, h1]
            have fb : fin len (br offs) [] ((sp, false, true) :: t) = (if br offs + sp + 1 ≤ len then (false, br offs + sp) :: fin len (br offs + sp + 1) [] t else (true, 0) :: fin len 1 [] t) := by
              rw [fin]; simp [hb0, sty_nil]
            rw [fu, fb]
/-! ### the mirrors of the law's plain pages -/
def last? (last : Option Int) (i : Int) : Option Nat → Int
  | none => last.getD i
  | some c => i + c
def resI (n : Int) {σ : Type} : Fl σ Int → Int
  | .rt r => r
  | .nx _ => n
theorem cut_go (len : Int) {R : List L3} : ∀ (ls p : List L3) (u : Int) (last : Option Int), R = p ++ ls →
    ∃ res, forL (m_law_cut_b1 len R) ((List.range' p.length ls.length).map fun (i : Nat) => (i : Int)) (u, last) = some res ∧ resI (R.length : Int) res = last? last (p.length : Int) (cutR len ls u last.isSome)
  | [], p, u, last, hR => by
    refine ⟨.nx (u, last), rfl, ?_⟩
    show (R.length : Int) = (p.length : Int) + ((0 : Nat) : Int)
    rw [hR]; simp
  | (sp, f, b) :: t, p, u, last, hR => by
    have g : getM R ((p.length : Nat) : Int) = some (sp, f, b) := getM_nat (by rw [hR]; simp)
    rw [List.length_cons, List.range'_succ, List.map_cons, forL_cons]
    have hstep : ∀ u' last', ∃ res, forL (m_law_cut_b1 len R) ((List.range' (p.length + 1) t.length).map fun (i : Nat) => (i : Int)) (u', last') = some res ∧ resI (R.length : Int) res = last? last' ((p.length : Int) + 1) (cutR len t u' last'.isSome) := by
      intro u' last'
      obtain ⟨res, h1, h2⟩ := cut_go len (R := R) t (p ++ [(sp, f, b)]) u' last' (by rw [hR]; simp)
      rw [List.length_append] at h1 h2
      refine ⟨res, h1, ?_⟩
      rw [h2]; congr 1
    have hb : m_law_cut_b1 len R (u, last) ((p.length : Nat) : Int) = if f = true then some (.rt ((p.length : Nat) : Int)) else if u + sp + 1 > len then (if b = false then some (.rt ((p.length : Nat) : Int)) else some (.rt (last.getD ((p.length : Nat) : Int)))) else some (.go (u + sp + 1, if b = false then some ((p.length : Nat) : Int) else last)) := by
      unfold m_law_cut_b1
      dsimp only
      rw [g, Option.bind_some]
      cases f with
      | true => simp
      | false =>
        by_cases h2 : u + sp + 1 > len
        · cases b with
          | false => simp [h2]
          | true => cases last <;> simp [h2]
        · cases b with
          | false => simp [h2]
          | true => simp [h2]
    rw [hb]
    cases f with
    | true =>
      refine ⟨.rt ((p.length : Nat) : Int), rfl, ?_⟩
      rw [show cutR len ((sp, true, b) :: t) u last.isSome = some 0 by rw [cutR]; simp]
      show ((p.length : Nat) : Int) = (p.length : Int) + ((0 : Nat) : Int)
      simp
    | false =>
      rw [if_neg (by simp)]
      by_cases h2 : u + sp + 1 > len
      · rw [if_pos h2]
        cases b with
        | false =>
          refine ⟨.rt ((p.length : Nat) : Int), rfl, ?_⟩
          rw [show cutR len ((sp, false, false) :: t) u last.isSome = some 0 by rw [cutR]; simp [h2]]
          show ((p.length : Nat) : Int) = (p.length : Int) + ((0 : Nat) : Int)
          simp
        | true =>
          refine ⟨.rt (last.getD ((p.length : Nat) : Int)), rfl, ?_⟩
          cases last with
          | none =>
            rw [show cutR len ((sp, false, true) :: t) u (none : Option Int).isSome = some 0 by rw [cutR]; simp [h2]]
            show ((p.length : Nat) : Int) = (p.length : Int) + ((0 : Nat) : Int)
            simp
          | some x =>
            rw [show cutR len ((sp, false, true) :: t) u (some x).isSome = none by rw [cutR]; simp [h2]]
            rfl
      · rw [if_neg h2]
        cases b with
        | false =>
          obtain ⟨res, h3, h4⟩ := hstep (u + sp + 1) (some ((p.length : Nat) : Int))
          refine ⟨res, h3, ?_⟩
          rw [h4]
          have e : cutR len ((sp, false, false) :: t) u last.isSome = match cutR len t (u + sp + 1) true with
            | none => some 0
            | some c => some (c + 1) := by rw [cutR]; simp [h2]
          rw [e]
          show last? _ _ (cutR len t (u + sp + 1) true) = _
          cases cutR len t (u + sp + 1) true with
          | none => show ((p.length : Nat) : Int) = (p.length : Int) + ((0 : Nat) : Int); simp
          | some c => show (p.length : Int) + 1 + (c : Int) = (p.length : Int) + ((c + 1 : Nat) : Int); omega
        | true =>
          obtain ⟨res, h3, h4⟩ := hstep (u + sp + 1) last
          refine ⟨res, h3, ?_⟩
          rw [h4]
          have e : cutR len ((sp, false, true) :: t) u last.isSome = match cutR len t (u + sp + 1) last.isSome with
            | none => none
            | some c => some (c + 1) := by rw [cutR]; simp [h2]
          rw [e]
          cases hc : cutR len t (u + sp + 1) last.isSome with
          | none =>
            cases last with
            | none =>
              exfalso
              exact cutR_ne len t (u + sp + 1) hc
            | some x => rfl
          | some c => show (p.length : Int) + 1 + (c : Int) = (p.length : Int) + ((c + 1 : Nat) : Int); omega
theorem rng2_ok {a b : Nat} (h : a ≤ b) (hb : b ≤ 100000) : rng2M (a : Int) (b : Int) = some ((List.range' a (b - a)).map fun (i : Nat) => (i : Int)) := by
  unfold rng2M
  rw [if_pos (by omega)]
  congr 1
  have e : ((b : Int) - (a : Int)).toNat = b - a := by omega
  rw [e, List.range'_eq_map_range, List.map_map]
  apply List.map_congr_left
  intro i _
  simp
theorem cut_ok (len : Int) {R p t : List L3} {l : L3} (hR : R = p ++ l :: t) (hl : R.length ≤ 100000) (hn : ∀ x ∈ R, 0 ≤ x.1) : ∃ c : Nat, m_law_cut len R (p.length : Int) = some ((p.length : Int) + 1 + (c : Int)) ∧ c ≤ t.length ∧
    (true, 0) :: (rowsF 0 (t.take c) ++ fin len 0 [] (t.drop c)) = fin len 0 [] (l :: t) := by
  obtain ⟨⟨c, hc, hcl, hf⟩, _⟩ := fin_page len t 1 (by decide) (fun x hx => hn x (by rw [hR]; simp [hx]))
  have hlen : R.length = p.length + 1 + t.length := by rw [hR]; simp; omega
  obtain ⟨res, h1, h2⟩ := cut_go len (R := R) t (p ++ [l]) 1 none (by rw [hR]; simp)
  rw [List.length_append, List.length_singleton] at h1 h2
  have hc' : cutR len t 1 (none : Option Int).isSome = some c := hc
  rw [hc'] at h2
  refine ⟨c, ?_, hcl, ?_⟩
  · unfold m_law_cut
    have e : (p.length : Int) + 1 = ((p.length + 1 : Nat) : Int) := by simp
    rw [e, rng2_ok (by omega) hl]
    have e2 : R.length - (p.length + 1) = t.length := by omega
    rw [e2, Option.bind_some, h1, Option.bind_some]
    have h3 : resI (R.length : Int) res = ((p.length + 1 : Nat) : Int) + (c : Int) := h2
    cases res with
    | rt r => rw [← h3]; rfl
    | nx s => rw [← h3]; rfl
  · rw [fin_zero, hf]; rfl
theorem page_go {R : List L3} {s : Nat} : ∀ (ls p : List L3) (acc : List Ln) (r : Int), (∃ q, R = p ++ ls ++ q) → s < p.length → acc.length + ls.length ≤ 100000 →
    ∃ r', folM (m_law_places_b2 R (s : Int)) ((List.range' p.length ls.length).map fun (i : Nat) => (i : Int)) (acc, r) = some (acc ++ rowsF r ls, r')
  | [], p, acc, r, _, _, _ => ⟨r, by simp [folM, rowsF]⟩
  | (sp, f, b) :: t, p, acc, r, ⟨q, hR⟩, hs, hl => by
    have hl' : acc.length + (t.length + 1) ≤ 100000 := hl
    have g : getM R ((p.length : Nat) : Int) = some (sp, f, b) := getM_nat (by rw [hR]; simp)
    obtain ⟨r', h1⟩ := page_go (R := R) (s := s) t (p ++ [(sp, f, b)]) (acc ++ [(false, r + 1 + sp)]) (r + 1 + sp) ⟨q, by rw [hR]; simp⟩ (by simp; omega) (by simp; omega)
    rw [List.length_append] at h1
    refine ⟨r', ?_⟩
    rw [List.length_cons, List.range'_succ, List.map_cons]
    show (m_law_places_b2 R (s : Int) (acc, r) ((p.length : Nat) : Int)).bind _ = _
    have hb : m_law_places_b2 R (s : Int) (acc, r) ((p.length : Nat) : Int) = some (acc ++ [(false, r + 1 + sp)], r + 1 + sp) := by
      unfold m_law_places_b2
      dsimp only
      refine bindOk ((if_pos (by simp; omega)).trans (bindOk g rfl)) (bindOk (appM_ok (by omega)) ?_)
      rw [decide_eq_false (by omega)]
    rw [hb]
    refine h1.trans ?_
    simp [rowsF]
theorem places_go (len : Int) {R : List L3} (hl : R.length ≤ 50000) (hn : ∀ x ∈ R, 0 ≤ x.1) : ∀ (N : Nat) (p ls : List L3) (acc : List Ln), R = p ++ ls → ls.length < N → acc.length = p.length →
    whL (m_law_places_b1 len R) N (acc, (p.length : Int)) = some (.nx (acc ++ fin len 0 [] ls, (R.length : Int)))
  | 0, _, _, _, _, h, _ => absurd h (Nat.not_lt_zero _)
  | N + 1, p, [], acc, hR, _, _ => by
    rw [whL_succ]
    have e : R.length = p.length := by rw [hR]; simp
    have hb : m_law_places_b1 len R (acc, (p.length : Int)) = some (.bk (acc, (p.length : Int))) := by
      unfold m_law_places_b1
      dsimp only
      rw [if_neg (by simp; omega)]
    rw [hb]
    show some (Fl.nx (acc, (p.length : Int))) = _
    rw [e]; simp [fin, sty]
  | N + 1, p, l :: t, acc, hR, hN, ha => by
    have hlen : R.length = p.length + 1 + t.length := by rw [hR]; simp; omega
    obtain ⟨c, hc, hcl, hf⟩ := cut_ok len hR (by omega) hn
    rw [whL_succ]
    obtain ⟨r', hpg⟩ := page_go (R := R) (s := p.length) (t.take c) (p ++ [l]) (acc ++ [(true, 0)]) 0 ⟨t.drop c, by rw [hR]; simp⟩ (by simp) (by simp; omega)
    have hb : m_law_places_b1 len R (acc, (p.length : Int)) = some (.go (acc ++ [(true, 0)] ++ rowsF 0 (t.take c), (p.length : Int) + 1 + (c : Int))) := by
      unfold m_law_places_b1
      dsimp only
      rw [if_pos (by simp; omega)]
      refine bindOk hc ?_
      have e : (p.length : Int) + 1 + (c : Int) = ((p.length + 1 + c : Nat) : Int) := by simp
      refine bindOk (by rw [e]; exact rng2_ok (by omega) (by omega)) ?_
      have e2 : p.length + 1 + c - p.length = c + 1 := by omega
      rw [e2, List.range'_succ, List.map_cons]
      refine bindOk (a := (acc ++ [(true, 0)] ++ rowsF 0 (t.take c), r')) ?_ rfl
      show (m_law_places_b2 R ((p.length : Nat) : Int) (acc, 0) ((p.length : Nat) : Int)).bind _ = _
      have hb2 : m_law_places_b2 R ((p.length : Nat) : Int) (acc, 0) ((p.length : Nat) : Int) = some (acc ++ [(true, 0)], 0) := by
        unfold m_law_places_b2
        dsimp only
        refine bindOk (if_neg (by simp)) (bindOk (appM_ok (by omega)) ?_)
        rw [decide_eq_true rfl]
      rw [hb2]
      rw [List.length_append, List.length_take, Nat.min_eq_left hcl] at hpg
      exact hpg
    rw [hb]
    show whL (m_law_places_b1 len R) N (acc ++ [(true, 0)] ++ rowsF 0 (t.take c), (p.length : Int) + 1 + (c : Int)) = _
    have hrl : ∀ (ls : List L3) (r : Int), (rowsF r ls).length = ls.length := by
      intro ls
      induction ls with
      | nil => intro r; rfl
      | cons x xs ih => intro r; obtain ⟨a, b, c⟩ := x; simp [rowsF, ih]
    have ih := places_go len hl hn N (p ++ l :: t.take c) (t.drop c) (acc ++ [(true, 0)] ++ rowsF 0 (t.take c)) (by rw [hR]; simp) (by simp at hN ⊢ <;> omega) (by simp [hrl, ha] <;> omega)
    have e3 : (((p ++ l :: t.take c).length : Nat) : Int) = (p.length : Int) + 1 + (c : Int) := by
      simp [Nat.min_eq_left hcl]; omega
    rw [e3] at ih
    rw [ih, ← hf]
    simp
theorem places_ok (len : Int) {R : List L3} (hl : R.length ≤ 50000) (hn : ∀ x ∈ R, 0 ≤ x.1) : m_law_places len R = some (fin len 0 [] R) := by
  unfold m_law_places
  have h := places_go len hl hn 1000000 [] R [] rfl (by omega) rfl
  refine bindOk h ?_
  show some ([] ++ fin len 0 [] R) = _
  simp
end Mr

set_option linter.all false
set_option maxRecDepth 100000
set_option maxHeartbeats 1000000
set_option synthInstance.maxSize 4000
set_option synthInstance.maxHeartbeats 400000
/-! k44: what the mirrors compute answers True. -/
namespace Mr
abbrev Bk := Int × Vl
def idx (n : Int) : List Int := (List.range n.toNat).map fun (i : Nat) => (i : Int)
/-- a block's lines -/
def blkL (due kept : Bool) (b : Bk) : List L3 := (idx b.1).map fun k => ((if (decide (k = (0 : Int))) = true then b.2.2.2.1 else (0 : Int)), (due && (decide (k = (0 : Int)))), (if (decide (k = (0 : Int))) = true then kept else ((decide (k = (1 : Int))) || (decide (k = (b.1 - (1 : Int)))))))
def linP : Bool → Bool → List Bk → List L3
  | _, _, [] => []
  | due, kept, b :: bs => if b.2.2.2.2.2.2 = true then linP due kept bs else
    blkL (due || b.2.2.2.2.2.1) kept b ++ (if b.1 > 0 then linP false b.2.2.2.2.1 bs else linP (due || b.2.2.2.2.2.1) kept bs)
def BkOk (bs : List Bk) : Prop := ∀ b ∈ bs, (0 ≤ b.1 ∧ b.1 ≤ 6) ∧ 0 ≤ b.2.2.2.1
def szB (b : Bk) : Int := if b.2.2.2.2.2.2 = true then 0 else b.1
def szBs : List Bk → Nat
  | [] => 0
  | b :: bs => (szB b).toNat + szBs bs
theorem idx_len (n : Int) : (idx n).length = n.toNat := by simp [idx]
theorem blkL_len (due kept : Bool) (b : Bk) : (blkL due kept b).length = b.1.toNat := by simp [blkL, idx_len]
theorem linP_len : ∀ (bs : List Bk) (due kept : Bool), (linP due kept bs).length = szBs bs
  | [], _, _ => rfl
  | b :: bs, due, kept => by
    rw [linP, szBs, szB]
    split
    · rw [linP_len bs]; simp
    · rw [List.length_append, blkL_len]
      split <;> rw [linP_len bs]
theorem linP_nn {bs : List Bk} (h : BkOk bs) : ∀ {due kept : Bool}, ∀ x ∈ linP due kept bs, 0 ≤ x.1 := by
  induction bs with
  | nil => intro due kept x hx; cases hx
  | cons b bs ih =>
    intro due kept x hx
    have hb := h b (List.mem_cons_self ..)
    have ih' : ∀ {due kept : Bool} (x : L3), x ∈ linP due kept bs → 0 ≤ x.1 := ih (fun y hy => h y (List.mem_cons_of_mem _ hy))
    rw [linP] at hx
    split at hx
    · exact ih' x hx
    · rcases List.mem_append.mp hx with hx | hx
      · obtain ⟨k, _, rfl⟩ := List.mem_map.mp hx
        dsimp only
        split
        · exact hb.2
        · exact Int.le_refl 0
      · split at hx <;> exact ih' x hx
theorem szBs_le : ∀ {bs : List Bk}, BkOk bs → szBs bs ≤ 6 * bs.length
  | [], _ => by simp [szBs]
  | b :: bs, h => by
    have hb := h b (List.mem_cons_self ..)
    have ih := szBs_le (bs := bs) (fun y hy => h y (List.mem_cons_of_mem _ hy))
    rw [szBs, szB, List.length_cons]
    split <;> omega
/-- the mirror of _law_lines -/
theorem lines_go : ∀ (bs : List Bk) (rows : List L3) (due kept : Bool), BkOk bs → rows.length + szBs bs ≤ 50000 → ∃ d k, folM m_law_lines_b1 bs (rows, due, kept) = some (rows ++ linP due kept bs, d, k)
  | [], rows, due, kept, _, _ => ⟨due, kept, by simp [folM, linP]⟩
  | b :: bs, rows, due, kept, h, hl => by
    have hb := h b (List.mem_cons_self ..)
    have h' : BkOk bs := fun y hy => h y (List.mem_cons_of_mem _ hy)
    rw [szBs, szB] at hl
    show ∃ d k, (m_law_lines_b1 (rows, due, kept) b).bind _ = _
    rw [linP]
    by_cases hleft : b.2.2.2.2.2.2 = true
    · obtain ⟨d, k, hi⟩ := lines_go bs rows due kept h' (by rw [if_pos hleft] at hl; omega)
      refine ⟨d, k, ?_⟩
      rw [if_pos hleft]
      have e : m_law_lines_b1 (rows, due, kept) b = some (rows, due, kept) := by
        unfold m_law_lines_b1
        dsimp only
        rw [if_pos hleft]
      rw [e]; exact hi
    · rw [if_neg hleft] at hl ⊢
      have e1 : folM (m_law_lines_b2 due kept b) (idx b.1) rows = some (rows ++ blkL (due || b.2.2.2.2.2.1) kept b) :=
        folM_app (f := m_law_lines_b2 due kept b) _ (fun _ _ => rfl) (idx b.1) rows (by rw [idx_len]; omega)
      by_cases hp : b.1 > 0
      · obtain ⟨d, k, hi⟩ := lines_go bs (rows ++ blkL (due || b.2.2.2.2.2.1) kept b) false b.2.2.2.2.1 h' (by rw [List.length_append, blkL_len]; omega)
        refine ⟨d, k, ?_⟩
        have e : m_law_lines_b1 (rows, due, kept) b = some (rows ++ blkL (due || b.2.2.2.2.2.1) kept b, false, b.2.2.2.2.1) := by
          unfold m_law_lines_b1
          dsimp only
          rw [if_neg hleft]
          refine bindOk (rngM_ok hb.1.1 (by omega)) (bindOk e1 (bindOk (if_pos (by simpa using hp)) rfl))
        rw [e, if_pos hp, ← List.append_assoc]; exact hi
      · obtain ⟨d, k, hi⟩ := lines_go bs (rows ++ blkL (due || b.2.2.2.2.2.1) kept b) (due || b.2.2.2.2.2.1) kept h' (by rw [List.length_append, blkL_len]; omega)
        refine ⟨d, k, ?_⟩
        have e : m_law_lines_b1 (rows, due, kept) b = some (rows ++ blkL (due || b.2.2.2.2.2.1) kept b, (due || b.2.2.2.2.2.1), kept) := by
          unfold m_law_lines_b1
          dsimp only
          rw [if_neg hleft]
          refine bindOk (rngM_ok hb.1.1 (by omega)) (bindOk e1 (bindOk (if_neg (by simpa using hp)) rfl))
        rw [e, if_neg hp, ← List.append_assoc]; exact hi
/-- cut into the blocks' own -/
def cutB : List Bk → List Ln → List (List Ln)
  | [], _ => []
  | b :: bs, F => F.take (szB b).toNat :: cutB bs (F.drop (szB b).toNat)
theorem cutM_mid {α : Type} (xs : List α) {a b : Nat} (h : a + b ≤ xs.length) : cutM xs (some (a : Int)) (some ((a : Int) + (b : Int))) = (xs.drop a).take b := by
  have e1 : slIx xs.length 0 (some (a : Int)) = a := by
    show (if (a : Int) < 0 then ((a : Int) + (xs.length : Int)).toNat else min (a : Int).toNat xs.length) = a
    rw [if_neg (by omega)]; omega
  have e2 : slIx xs.length xs.length (some ((a : Int) + (b : Int))) = a + b := by
    show (if (a : Int) + (b : Int) < 0 then ((a : Int) + (b : Int) + (xs.length : Int)).toNat else min ((a : Int) + (b : Int)).toNat xs.length) = a + b
    rw [if_neg (by omega)]; omega
  unfold cutM
  rw [e1, e2]
  congr 1; omega
theorem byb_go {F : List Ln} : ∀ (bs : List Bk) (told : List (List Ln)) (n : Nat), BkOk bs → n + szBs bs ≤ F.length → told.length + bs.length ≤ 50000 →
    ∃ m, folM (m_law_by_block_b1 F) bs (told, (n : Int)) = some (told ++ cutB bs (F.drop n), m)
  | [], told, n, _, _, _ => ⟨(n : Int), by simp [folM, cutB]⟩
  | b :: bs, told, n, h, hl, ht => by
    have hb := h b (List.mem_cons_self ..)
    have h' : BkOk bs := fun y hy => h y (List.mem_cons_of_mem _ hy)
    rw [szBs] at hl
    have ht' : told.length + (bs.length + 1) ≤ 50000 := ht
    have hsz : (if b.2.2.2.2.2.2 = true then (0 : Int) else b.1) = ((szB b).toNat : Int) := by
      unfold szB; split <;> omega
    obtain ⟨m, hi⟩ := byb_go (F := F) bs (told ++ [(F.drop n).take (szB b).toNat]) (n + (szB b).toNat) h' (by omega) (by simp; omega)
    refine ⟨m, ?_⟩
    show (m_law_by_block_b1 F (told, (n : Int)) b).bind _ = _
    have e : m_law_by_block_b1 F (told, (n : Int)) b = some (told ++ [(F.drop n).take (szB b).toNat], ((n + (szB b).toNat : Nat) : Int)) := by
      unfold m_law_by_block_b1
      dsimp only
      rw [hsz, cutM_mid F (by omega)]
      refine bindOk (appM_ok (by omega)) ?_
      simp
    rw [e]
    refine hi.trans ?_
    rw [cutB, List.drop_drop]
    simp
theorem sty_len' (u : Int) (xs : List Int) : (sty u xs).length = xs.length := sty_len u xs
theorem fin_len (len : Int) : ∀ (ls : List L3) (u : Int) (offs : List Int), (fin len u offs ls).length = offs.length + ls.length
  | [], u, offs => by simp [fin, sty_len]
  | (sp, f, b) :: t, u, offs => by
    have i := fin_len len t
    rw [fin]
    split
    · simp [sty_len, i] <;> omega
    · split
      · split
        · simp [sty_len, i] <;> omega
        · split
          · rename_i h; subst h; simp [i] <;> omega
          · simp [i] <;> omega
      · split
        · simp [sty_len, i] <;> omega
        · split <;> simp [gov_len, i] <;> omega
theorem by_block_ok (len : Int) {bs : List Bk} (h : BkOk bs) (hl : bs.length ≤ 1000) : m_law_by_block len bs = some (cutB bs (fin len 0 [] (linP false false bs))) := by
  have hs := szBs_le h
  obtain ⟨d, k, h1⟩ := lines_go bs [] false false h (by simp; omega)
  have hlen : (linP false false bs).length = szBs bs := linP_len bs _ _
  have h2 := places_ok len (R := linP false false bs) (by omega) (linP_nn h)
  obtain ⟨m, h3⟩ := byb_go (F := fin len 0 [] (linP false false bs)) bs [] 0 h (by rw [fin_len]; simp; omega) (by simp; omega)
  exact bindOk (bindOk h1 rfl) (bindOk h2 (bindOk h3 rfl))
/-- two cuts are the same: the sizes are, and what is cut is -/
theorem cutB_eq : ∀ (bs cs : List Bk) (F G : List Ln), bs.length = cs.length → F.length = szBs bs → G.length = szBs cs → (∀ b ∈ bs, 0 ≤ b.1) → (∀ b ∈ cs, 0 ≤ b.1) → (cutB bs F = cutB cs G ↔ F = G ∧ bs.map szB = cs.map szB)
  | [], [], F, G, _, hF, hG, _, _ => by
    simp [szBs] at hF hG
    subst hF; subst hG
    simp [cutB]
  | [], _ :: _, _, _, h, _, _, _, _ => by cases h
  | _ :: _, [], _, _, h, _, _, _, _ => by cases h
  | b :: bs, c :: cs, F, G, h, hF, hG, n1, n2 => by
    rw [szBs] at hF hG
    have hb := n1 b (List.mem_cons_self ..)
    have hc := n2 c (List.mem_cons_self ..)
    have zb : 0 ≤ szB b := by unfold szB; split <;> omega
    have zc : 0 ≤ szB c := by unfold szB; split <;> omega
    have i := cutB_eq bs cs (F.drop (szB b).toNat) (G.drop (szB c).toNat) (by simpa using h) (by simp; omega) (by simp; omega) (fun y hy => n1 y (List.mem_cons_of_mem _ hy)) (fun y hy => n2 y (List.mem_cons_of_mem _ hy))
    rw [cutB, cutB, List.cons.injEq, i, List.map_cons, List.map_cons, List.cons.injEq]
    constructor
    · rintro ⟨e1, e2, e3⟩
      have el : (szB b).toNat = (szB c).toNat := by
        have := congrArg List.length e1
        simp at this
        omega
      refine ⟨?_, by omega, e3⟩
      rw [← List.take_append_drop (szB b).toNat F, e1, e2, List.take_append_drop]
    · rintro ⟨rfl, e2, e3⟩
      rw [e2]
      exact ⟨rfl, rfl, e3⟩
/-! ### a side's steps and fin -/
def slO (len rows : Int) (offs : List Int) (sp : Int) (b : Bool) : Out :=
  if rows = 0 then (1, [], [(true, 0)])
  else if rows + sp + 1 ≤ len then (if b = false then (rows + sp + 1, [0], sty rows offs) else if offs = [] then (rows + sp + 1, [], [(false, rows + sp)]) else (rows + sp + 1, offs ++ [br offs + sp], []))
  else if b = false then (1, [], sty rows offs ++ [(true, 0)])
  else if offs = [] then (1, [], [(true, 0)])
  else if br offs + sp + 1 ≤ len then (br offs + sp + 1, [], gov offs ++ [(false, br offs + sp)])
  else (1, [], gov offs ++ [(true, 0)])
theorem side_line_eq (len : Int) {rows : Int} {offs : List Int} (sp : Int) (b : Bool) (hl : offs.length ≤ 1000) : m_side_line len (rows, offs) sp b = some (slO len rows offs sp b) := by
  have z : szM ([] : List Int) = some [] := szM_ok (by simp)
  unfold m_side_line
  dsimp only
  by_cases h1 : rows = 0
  · have hS : slO len rows offs sp b = (1, [], [(true, 0)]) := by unfold slO; simp [h1]
    rw [hS]
    exact (if_pos (by simpa using h1)).trans (bindOk z rfl)
  refine (if_neg (by simpa using h1)).trans ?_
  by_cases h2 : rows + sp + 1 ≤ len
  · refine (if_pos (by simpa using h2)).trans ?_
    unfold m_fitting
    cases b
    · have hS : slO len rows offs sp false = (rows + sp + 1, [0], sty rows offs) := by unfold slO; simp [h1, h2]
      rw [hS]
      exact bindOk ((if_pos rfl).trans (bindOk (szM_ok (by simp)) (bindOk (staying_ok rows (by omega)) rfl))) rfl
    · by_cases hx : offs = []
      · subst hx
        have hS : slO len rows [] sp true = (rows + sp + 1, [], [(false, rows + sp)]) := by unfold slO; simp [h1, h2]
        rw [hS]
        exact bindOk ((if_neg (by simp)).trans ((if_neg (by simp)).trans (bindOk z rfl))) rfl
      · have hxe : (!offs.isEmpty) = true := by cases offs <;> simp_all
        have hbr : offs.getLast hx + 1 = br offs := by unfold br; rw [dif_neg hx]
        have hq : offs.getLast hx + sp + 1 = br offs + sp := by omega
        have hS : slO len rows offs sp true = (rows + sp + 1, offs ++ [br offs + sp], []) := by unfold slO; simp [h1, h2, hx]
        rw [hS, ← hq]
        exact bindOk ((if_neg (by simp)).trans ((if_pos hxe).trans (bindOk (getM_last hx) (bindOk (szM_ok (by simp; omega)) rfl)))) rfl
  refine (if_neg (by simpa using h2)).trans ?_
  cases b
  · have hS : slO len rows offs sp false = (1, [], sty rows offs ++ [(true, 0)]) := by unfold slO; simp [h1, h2]
    rw [hS]
    exact (if_pos rfl).trans (bindOk z (bindOk (staying_ok rows (by omega)) (bindOk (catM_ok (by simp [sty_len]; omega)) rfl)))
  refine (if_neg (by simp)).trans ?_
  by_cases hx : offs = []
  · subst hx
    have hS : slO len rows [] sp true = (1, [], [(true, 0)]) := by unfold slO; simp [h1, h2]
    rw [hS]
    exact (if_pos (by simp)).trans (bindOk z rfl)
  have hxe : ¬ (!(!offs.isEmpty)) = true := by cases offs <;> simp_all
  refine (if_neg hxe).trans (bindOk (going_over_ok (by omega)) (bindOk (back_rows_ok _) ?_))
  by_cases h5 : br offs + sp + 1 ≤ len
  · have hS : slO len rows offs sp true = (br offs + sp + 1, [], gov offs ++ [(false, br offs + sp)]) := by unfold slO; simp [h1, h2, hx, h5]
    rw [hS]
    exact (if_pos (by simpa using h5)).trans (bindOk z (bindOk (catM_ok (by simp [gov_len]; omega)) rfl))
  · have hS : slO len rows offs sp true = (1, [], gov offs ++ [(true, 0)]) := by unfold slO; simp [h1, h2, hx, h5]
    rw [hS]
    exact (if_neg (by simpa using h5)).trans (bindOk z (bindOk (catM_ok (by simp [gov_len]; omega)) rfl))
theorem slO_fin {len rows : Int} {offs : List Int} {sp : Int} {b f b' : Bool} {t : List L3} (h0 : rows = 0 → offs = []) (hf : rows = 0 ∨ (f = false ∧ b' = b)) :
    fin len rows offs ((sp, f, b') :: t) = (slO len rows offs sp b).2.2 ++ fin len (slO len rows offs sp b).1 (slO len rows offs sp b).2.1 t := by
  rw [fin]
  unfold slO
  by_cases h1 : rows = 0
  · rw [if_pos (.inl h1), if_pos h1, h0 h1]; simp [sty_nil]
  · rcases hf with hf | ⟨rfl, rfl⟩
    · exact absurd hf h1
    rw [if_neg (by simp [h1]), if_neg h1]
    by_cases h2 : rows + sp + 1 ≤ len
    · rw [if_pos h2, if_pos h2]
      cases b'
      · simp
      · by_cases hx : offs = []
        · subst hx; simp
        · simp [hx]
    · rw [if_neg h2, if_neg h2]
      cases b'
      · simp
      · by_cases hx : offs = []
        · subst hx; simp [sty_nil]
        · by_cases h5 : br offs + sp + 1 ≤ len
          · simp [hx, h5]
          · simp [hx, h5]
def clO (len rows : Int) (offs : List Int) (kept : Bool) : OutC :=
  if kept = true then (if rows = len ∧ offs = [] then (topS, [], []) else ((Wd.kept, rows, br offs), offs, []))
  else if rows = len then (topS, [], sty rows offs) else ((Wd.opn, rows, 0), [], sty rows offs)
theorem close_side_eq (len : Int) {rows : Int} {offs : List Int} (k : Bool) (hl : offs.length ≤ 1000) : m_close_side len (rows, offs) k = some (clO len rows offs k) := by
  have z : szM ([] : List Int) = some [] := szM_ok (by simp)
  unfold m_close_side clO
  dsimp only
  cases k
  · rw [if_neg (by simp), if_neg (by simp), staying_ok rows (by omega)]
    by_cases h : rows = len
    · rw [if_pos h]; exact (if_pos (by simpa using h)).trans (bindOk z rfl)
    · rw [if_neg h]; exact (if_neg (by simpa using h)).trans (bindOk z rfl)
  · rw [if_pos rfl, if_pos rfl]
    by_cases h : rows = len ∧ offs = []
    · obtain ⟨h1, h2⟩ := h
      subst h2
      rw [if_pos (by simpa using h1), if_pos ⟨h1, rfl⟩, z]; rfl
    · rw [if_neg (by intro e; apply h; cases offs <;> simp_all), if_neg h, back_rows_ok]; rfl
def hdK (k : Bool) (X : List L3) : Prop := X = [] ∨ ∃ sp f t, X = (sp, f, k) :: t ∧ 0 ≤ sp
def hdF (X : List L3) : Prop := X = [] ∨ ∃ sp b t, X = (sp, true, b) :: t
theorem fin_fresh {len u : Int} {offs : List Int} {X : List L3} (h : hdF X) : fin len u offs X = sty u offs ++ fin len 0 [] X := by
  rcases h with rfl | ⟨sp, b, t, rfl⟩
  · simp [fin, sty_nil]
  · rw [fin_forced, fin_zero]
theorem fin_full {len : Int} {k : Bool} {X : List L3} (hl : 2 ≤ len) (h : hdK k X) : fin len len [] X = fin len 0 [] X := by
  rcases h with rfl | ⟨sp, f, t, rfl, hs⟩
  · simp [fin, sty_nil]
  · rw [fin_zero, fin]
    by_cases hf : len = 0 ∨ f = true
    · rw [if_pos hf]; simp [sty_nil]
    · rw [if_neg hf, if_neg (by omega), if_pos (.inr rfl)]; simp [sty_nil]
theorem fin_stay {len u : Int} {offs : List Int} {X : List L3} (h : hdK false X) : fin len u offs X = sty u offs ++ fin len u [] X := by
  rcases h with rfl | ⟨sp, f, t, rfl, hs⟩
  · simp [fin, sty_nil]
  · rw [fin, fin]
    split
    · simp [sty_nil]
    · split
      · simp [sty_nil]
      · simp [sty_nil]
theorem clO_fin {len rows : Int} {offs : List Int} {k : Bool} {X : List L3} (hl : 2 ≤ len) (h : hdK k X) :
    fin len rows offs X = (clO len rows offs k).2.2 ++ fin len (clO len rows offs k).1.2.1 (clO len rows offs k).2.1 X := by
  unfold clO
  cases k
  · rw [if_neg (by simp), fin_stay h]
    by_cases e : rows = len
    · rw [if_pos e]
      show _ = sty rows offs ++ fin len 0 [] X
      rw [e, fin_full hl h]
    · rw [if_neg e]
  · rw [if_pos rfl]
    by_cases e : rows = len ∧ offs = []
    · rw [if_pos e]
      obtain ⟨e1, e2⟩ := e
      show _ = [] ++ fin len 0 [] X
      rw [e1, e2, fin_full hl h]; rfl
    · rw [if_neg e]; rfl
/-! ### heads of lines -/
theorem idx_pos {n : Int} (h : 0 < n) : ∃ ks, idx n = 0 :: ks ∧ ∀ k ∈ ks, k ≠ 0 := by
  obtain ⟨m, hm⟩ : ∃ m, n.toNat = m + 1 := ⟨n.toNat - 1, by omega⟩
  refine ⟨(List.range' 1 m).map fun (i : Nat) => (i : Int), ?_, ?_⟩
  · unfold idx
    rw [hm, List.range_eq_range', List.range'_succ]; rfl
  · intro k hk
    obtain ⟨i, hi, rfl⟩ := List.mem_map.mp hk
    have := (List.mem_range'_1.mp hi).1
    omega
theorem blkL_hd {due kept : Bool} {b : Bk} (h : 0 < b.1) : ∃ t : List L3, blkL due kept b = (b.2.2.2.1, due, kept) :: t := by
  obtain ⟨ks, hk, _⟩ := idx_pos h
  unfold blkL
  rw [hk, List.map_cons, if_pos (by simp), if_pos (by simp)]
  rw [decide_eq_true rfl, Bool.and_true]
  exact ⟨_, rfl⟩
theorem blkL_nil {due kept : Bool} {b : Bk} (h : ¬ b.1 > 0) : blkL due kept b = [] := by
  unfold blkL idx
  have : b.1.toNat = 0 := by omega
  rw [this]; rfl
theorem linP_hdK : ∀ {bs : List Bk} {due kept : Bool}, BkOk bs → hdK kept (linP due kept bs)
  | [], _, _, _ => .inl rfl
  | b :: bs, due, kept, h => by
    have hb := h b (List.mem_cons_self ..)
    have ih : ∀ due kept, hdK kept (linP due kept bs) := fun due kept => linP_hdK (fun y hy => h y (List.mem_cons_of_mem _ hy))
    rw [linP]
    split
    · exact ih _ _
    · by_cases hp : b.1 > 0
      · obtain ⟨t, ht⟩ := blkL_hd (due := due || b.2.2.2.2.2.1) (kept := kept) hp
        rw [ht]
        exact .inr ⟨_, _, _, rfl, hb.2⟩
      · rw [blkL_nil hp, if_neg hp]
        exact ih _ _
theorem linP_hdF : ∀ {bs : List Bk} {kept : Bool}, hdF (linP true kept bs)
  | [], _ => .inl rfl
  | b :: bs, kept => by
    rw [linP]
    split
    · exact linP_hdF
    · by_cases hp : b.1 > 0
      · obtain ⟨t, ht⟩ := blkL_hd (due := true || b.2.2.2.2.2.1) (kept := kept) hp
        rw [ht]
        exact .inr ⟨_, _, _, rfl⟩
      · rw [blkL_nil hp, if_neg hp]
        exact linP_hdF
/-! ### joint steps -/
theorem mtc_take {α : Type} [DecidableEq α] : ∀ {a b r : List α}, mtc a b = some r → a.take (min a.length b.length) = b.take (min a.length b.length)
  | [], b, r, h => by simp
  | x :: a, [], r, h => by simp
  | x :: a, y :: b, r, h => by
    have h' : (if x = y then mtc a b else none) = some r := h
    split at h'
    · rename_i e
      have e2 : min (x :: a).length (y :: b).length = min a.length b.length + 1 := by simp only [List.length_cons]; omega
      rw [e2, List.take_succ_cons, List.take_succ_cons, mtc_take h', e]
    · cases h'
theorem mtc_self {α : Type} [DecidableEq α] : ∀ a : List α, mtc a a = some []
  | [] => rfl
  | x :: a => by
    show (if x = x then mtc a a else none) = some []
    rw [if_pos rfl]; exact mtc_self a
theorem setl_of {a b : List Ln} {p1 p2 : List Int} (h : a.length + p1.length = b.length + p2.length) :
    setl p1 p2 (a.drop (min a.length b.length) ++ b.drop (min a.length b.length)) = (a.drop (min a.length b.length), b.drop (min a.length b.length)) := by
  unfold setl
  split
  · have : b.drop (min a.length b.length) = [] := List.drop_eq_nil_of_le (by omega)
    rw [this, List.append_nil]
  · have : a.drop (min a.length b.length) = [] := List.drop_eq_nil_of_le (by omega)
    rw [this, List.nil_append]
theorem eqv_mgd {α : Type} {o1 o2 : List Int} {S : List Ln} {one two : α × List Int × List Ln} {X Y : List Ln} {c : Nat} (h : StOk o1 o2 S) (h1 : one.2.1.length + one.2.2.length = o1.length + c) (h2 : two.2.1.length + two.2.2.length = o2.length + c) :
    ((setl o1 o2 S).1 ++ (one.2.2 ++ X) = (setl o1 o2 S).2 ++ (two.2.2 ++ Y)) ↔ ∃ r, mgd o1 o2 S one two = some (one.1, one.2.1, two.1, two.2.1, r) ∧ (setl one.2.1 two.2.1 r).1 ++ X = (setl one.2.1 two.2.1 r).2 ++ Y := by
  obtain ⟨_, _, k3⟩ := setl_ok h
  rw [← List.append_assoc, ← List.append_assoc]
  unfold mgd mrg
  cases hm : mtc ((setl o1 o2 S).1 ++ one.2.2) ((setl o1 o2 S).2 ++ two.2.2) with
  | none =>
    constructor
    · intro e
      have := mtc_ext X Y hm
      rw [e, mtc_self] at this
      cases this
    · rintro ⟨r, hr, _⟩
      cases hr
  | some r =>
    have e1 := mtc_drop hm
    have e2 := mtc_take hm
    have e3 := setl_of (a := (setl o1 o2 S).1 ++ one.2.2) (b := (setl o1 o2 S).2 ++ two.2.2) (p1 := one.2.1) (p2 := two.2.1) (by simp; omega)
    rw [← e1] at e3
    generalize hM : min ((setl o1 o2 S).1 ++ one.2.2).length ((setl o1 o2 S).2 ++ two.2.2).length = m at e2 e3
    have key : ((setl o1 o2 S).1 ++ one.2.2 ++ X = (setl o1 o2 S).2 ++ two.2.2 ++ Y) ↔ (setl one.2.1 two.2.1 r).1 ++ X = (setl one.2.1 two.2.1 r).2 ++ Y := by
      rw [e3]
      have d1 := List.take_append_drop m ((setl o1 o2 S).1 ++ one.2.2)
      have d2 := List.take_append_drop m ((setl o1 o2 S).2 ++ two.2.2)
      constructor
      · intro e
        rw [← d1, ← d2, e2, List.append_assoc, List.append_assoc] at e
        exact List.append_cancel_left e
      · intro e
        rw [← d1, ← d2, e2, List.append_assoc, List.append_assoc]
        exact congrArg _ e
    constructor
    · intro e
      exact ⟨r, rfl, key.mp e⟩
    · rintro ⟨r', hr, e⟩
      have : r' = r := by
        have := Option.some.inj hr
        simpa using this.symm
      subst this
      exact key.mpr e
def EqW (lens : Int × Int) (W : Option Wn) (x y : List L3) : Prop := ∃ j, W = some j ∧ (setl j.2.1 j.2.2.2.1 j.2.2.2.2).1 ++ fin lens.1 j.1 j.2.1 x = (setl j.2.1 j.2.2.2.1 j.2.2.2.2).2 ++ fin lens.2 j.2.2.1 j.2.2.2.1 y
def EqJ (lens : Int × Int) (W : Option Jt) (x y : List L3) : Prop := ∃ j, W = some j ∧ (setl j.2.1 j.2.2.2.1 j.2.2.2.2).1 ++ fin lens.1 j.1.2.1 j.2.1 x = (setl j.2.1 j.2.2.2.1 j.2.2.2.2).2 ++ fin lens.2 j.2.2.1.2.1 j.2.2.2.1 y
theorem eqW_none {lens : Int × Int} {x y : List L3} : ¬ EqW lens none x y := by rintro ⟨j, h, _⟩; cases h
theorem eqJ_none {lens : Int × Int} {x y : List L3} : ¬ EqJ lens none x y := by rintro ⟨j, h, _⟩; cases h
theorem line_eq {lens : Int × Int} {p : Bool} {W : Option Wn} (sp : Int × Int) (b : Bool × Bool) (f1 b1 f2 b2 : Bool) (t1 t2 : List L3) (hl : LnsOk lens) (hs : 0 ≤ sp.1 ∧ 0 ≤ sp.2) (h : Opt (WOk lens p) W)
    (hc : ∀ j, W = some j → (j.1 = 0 ∨ (f1 = false ∧ b1 = b.1)) ∧ (j.2.2.1 = 0 ∨ (f2 = false ∧ b2 = b.2))) :
    ∃ K, m_joint_line lens W sp b = some K ∧ Opt (WOk lens true) K ∧ (EqW lens W ((sp.1, f1, b1) :: t1) ((sp.2, f2, b2) :: t2) ↔ EqW lens K t1 t2) := by
  cases W with
  | none => exact ⟨none, rfl, opt_none, Iff.intro (fun e => absurd e eqW_none) (fun e => absurd e eqW_none)⟩
  | some j =>
    obtain ⟨K, hK, hk⟩ := line_in sp b hl hs h
    refine ⟨K, hK, hk, ?_⟩
    obtain ⟨h1, h2, h3, _⟩ := h j rfl
    obtain ⟨c1, c2⟩ := hc j rfl
    have l1 := inw_len h1 hl.1.2
    have l2 := inw_len h2 hl.2.2
    have e1 := side_line_eq lens.1 (rows := j.1) (offs := j.2.1) sp.1 b.1 (by omega)
    have e2 := side_line_eq lens.2 (rows := j.2.2.1) (offs := j.2.2.2.1) sp.2 b.2 (by omega)
    obtain ⟨o1, e1', k1⟩ := side_line_in (side := (j.1, j.2.1)) b.1 hl.1 hs.1 h1
    obtain ⟨o2, e2', k2⟩ := side_line_in (side := (j.2.2.1, j.2.2.2.1)) b.2 hl.2 hs.2 h2
    have q1 : o1 = slO lens.1 j.1 j.2.1 sp.1 b.1 := Option.some.inj (e1'.symm.trans e1)
    have q2 : o2 = slO lens.2 j.2.2.1 j.2.2.2.1 sp.2 b.2 := Option.some.inj (e2'.symm.trans e2)
    have l3 := h3.2
    have r1 := k1.2.2.2
    have r2 := k2.2.2.2
    dsimp only at r1 r2
    have hKm : m_joint_line lens (some j) sp b = some (mgd j.2.1 j.2.2.2.1 j.2.2.2.2 o1 o2) :=
      (if_neg (by simp)).trans (bindOk rfl (bindOk rfl (bindOk e1' (bindOk rfl (bindOk rfl (bindOk e2' (bindOk rfl (bindOk (merged1_ok (by omega)) rfl))))))))
    have hKe : K = mgd j.2.1 j.2.2.2.1 j.2.2.2.2 o1 o2 := Option.some.inj (hK.symm.trans hKm)
    have x1 := slO_fin (len := lens.1) (offs := j.2.1) (sp := sp.1) (b := b.1) (t := t1) (fun e => by rw [e] at h1; exact inw_zero h1) c1
    have x2 := slO_fin (len := lens.2) (offs := j.2.2.2.1) (sp := sp.2) (b := b.2) (t := t2) (fun e => by rw [e] at h2; exact inw_zero h2) c2
    rw [← q1] at x1
    rw [← q2] at x2
    have key := eqv_mgd (X := fin lens.1 o1.1 o1.2.1 t1) (Y := fin lens.2 o2.1 o2.2.1 t2) (c := 1) h3 r1 r2
    constructor
    · rintro ⟨j', hj, e⟩
      cases hj
      rw [x1, x2] at e
      obtain ⟨r, hr, e'⟩ := key.mp e
      exact ⟨_, hKe.trans hr, e'⟩
    · rintro ⟨j', hj, e⟩
      refine ⟨j, rfl, ?_⟩
      rw [x1, x2]
      apply key.mpr
      rw [hKe] at hj
      have hj2 := hj
      unfold mgd at hj2
      cases hm : mrg j.2.1 j.2.2.2.1 j.2.2.2.2 o1.2.2 o2.2.2 with
      | none => rw [hm] at hj2; cases hj2
      | some r =>
        rw [hm] at hj2
        cases hj2
        exact ⟨r, hj, e⟩
theorem close_eq {lens : Int × Int} {W : Option Wn} (v w : Vl) (X Y : List L3) (hl : LnsOk lens) (h : Opt (WOk lens true) W) (hx : hdK v.2.2.2.1 X) (hy : hdK w.2.2.2.1 Y) :
    ∃ K, m_joint_close lens W v w = some K ∧ Opt (JOk lens) K ∧ (EqW lens W X Y ↔ EqJ lens K X Y) ∧ (∀ k, K = some k → (∃ r o, k.1 = (clO lens.1 r o v.2.2.2.1).1 ∧ 1 ≤ r) ∧ (∃ r o, k.2.2.1 = (clO lens.2 r o w.2.2.2.1).1 ∧ 1 ≤ r)) := by
  cases W with
  | none => exact ⟨none, rfl, opt_none, Iff.intro (fun e => absurd e eqW_none) (fun e => absurd e eqJ_none), fun k e => nomatch e⟩
  | some j =>
    obtain ⟨K, hK, hk⟩ := close_in v w hl h
    obtain ⟨h1, h2, h3, h4⟩ := h j rfl
    have l1 := inw_len h1 hl.1.2
    have l2 := inw_len h2 hl.2.2
    have e1 := close_side_eq lens.1 (rows := j.1) (offs := j.2.1) v.2.2.2.1 (by omega)
    have e2 := close_side_eq lens.2 (rows := j.2.2.1) (offs := j.2.2.2.1) w.2.2.2.1 (by omega)
    obtain ⟨o1, e1', k1⟩ := close_side_in (side := (j.1, j.2.1)) v.2.2.2.1 hl.1 h1 (h4 rfl).1
    obtain ⟨o2, e2', k2⟩ := close_side_in (side := (j.2.2.1, j.2.2.2.1)) w.2.2.2.1 hl.2 h2 (h4 rfl).2
    have q1 : o1 = clO lens.1 j.1 j.2.1 v.2.2.2.1 := Option.some.inj (e1'.symm.trans e1)
    have q2 : o2 = clO lens.2 j.2.2.1 j.2.2.2.1 w.2.2.2.1 := Option.some.inj (e2'.symm.trans e2)
    have l3 := h3.2
    have r1 := k1.2.2
    have r2 := k2.2.2
    dsimp only at r1 r2
    have hKm : m_joint_close lens (some j) v w = some (mgd j.2.1 j.2.2.2.1 j.2.2.2.2 o1 o2) :=
      (if_neg (by simp)).trans (bindOk rfl (bindOk rfl (bindOk e1' (bindOk rfl (bindOk rfl (bindOk e2' (bindOk rfl (bindOk (merged2_ok (by omega)) rfl))))))))
    have hKe : K = mgd j.2.1 j.2.2.2.1 j.2.2.2.2 o1 o2 := Option.some.inj (hK.symm.trans hKm)
    have x1 := clO_fin (len := lens.1) (rows := j.1) (offs := j.2.1) hl.1.1 hx
    have x2 := clO_fin (len := lens.2) (rows := j.2.2.1) (offs := j.2.2.2.1) hl.2.1 hy
    rw [← q1] at x1
    rw [← q2] at x2
    have key := eqv_mgd (X := fin lens.1 o1.1.2.1 o1.2.1 X) (Y := fin lens.2 o2.1.2.1 o2.2.1 Y) (c := 0) h3 r1 r2
    have hsome : ∀ k, K = some k → ∃ r, k = (o1.1, o1.2.1, o2.1, o2.2.1, r) := by
      intro k e
      rw [hKe] at e
      unfold mgd at e
      cases hm : mrg j.2.1 j.2.2.2.1 j.2.2.2.2 o1.2.2 o2.2.2 with
      | none => rw [hm] at e; cases e
      | some r => rw [hm] at e; cases e; exact ⟨r, rfl⟩
    refine ⟨K, hK, hk, ?_, ?_⟩
    · constructor
      · rintro ⟨j', hj, e⟩
        cases hj
        rw [x1, x2] at e
        obtain ⟨r, hr, e'⟩ := key.mp e
        exact ⟨_, hKe.trans hr, e'⟩
      · rintro ⟨j', hj, e⟩
        refine ⟨j, rfl, ?_⟩
        rw [x1, x2]
        apply key.mpr
        obtain ⟨r, rfl⟩ := hsome j' hj
        exact ⟨r, hKe.symm.trans hj, e⟩
    · intro k e
      obtain ⟨r, rfl⟩ := hsome k e
      exact ⟨⟨j.1, j.2.1, by rw [q1], (h4 rfl).1⟩, ⟨j.2.2.1, j.2.2.2.1, by rw [q2], (h4 rfl).2⟩⟩
theorem page_eq {lens : Int × Int} {j : Jt} (f s : Bool) (X Y : List L3) (hl : LnsOk lens) (h : JOk lens j) (hx : f = true → hdF X) (hy : s = true → hdF Y) :
    EqJ lens (some j) X Y ↔ EqJ lens (jp j f s) X Y := by
  have c1 := sideP_in f hl.1 h.1
  have c2 := sideP_in s hl.2 h.2.1
  have x1 : fin lens.1 j.1.2.1 j.2.1 X = (sideP j.1 j.2.1 f).2.2 ++ fin lens.1 (sideP j.1 j.2.1 f).1.2.1 (sideP j.1 j.2.1 f).2.1 X := by
    cases f
    · rfl
    · exact fin_fresh (hx rfl)
  have x2 : fin lens.2 j.2.2.1.2.1 j.2.2.2.1 Y = (sideP j.2.2.1 j.2.2.2.1 s).2.2 ++ fin lens.2 (sideP j.2.2.1 j.2.2.2.1 s).1.2.1 (sideP j.2.2.1 j.2.2.2.1 s).2.1 Y := by
    cases s
    · rfl
    · exact fin_fresh (hy rfl)
  have key := eqv_mgd (one := sideP j.1 j.2.1 f) (two := sideP j.2.2.1 j.2.2.2.1 s) (X := fin lens.1 (sideP j.1 j.2.1 f).1.2.1 (sideP j.1 j.2.1 f).2.1 X) (Y := fin lens.2 (sideP j.2.2.1 j.2.2.2.1 s).1.2.1 (sideP j.2.2.1 j.2.2.2.1 s).2.1 Y) (c := 0) h.2.2 c1.2.2 c2.2.2
  constructor
  · rintro ⟨j', hj, e⟩
    cases hj
    rw [x1, x2] at e
    obtain ⟨r, hr, e'⟩ := key.mp e
    exact ⟨_, hr, e'⟩
  · rintro ⟨j', hj, e⟩
    refine ⟨j, rfl, ?_⟩
    rw [x1, x2]
    apply key.mpr
    have hj2 := hj
    unfold jp mgd at hj2
    cases hm : mrg j.2.1 j.2.2.2.1 j.2.2.2.2 (sideP j.1 j.2.1 f).2.2 (sideP j.2.2.1 j.2.2.2.1 s).2.2 with
    | none => rw [hm] at hj2; cases hj2
    | some r =>
      rw [hm] at hj2
      cases hj2
      exact ⟨r, hj, e⟩
end Mr

set_option linter.all false
set_option maxRecDepth 100000
set_option maxHeartbeats 1000000
set_option synthInstance.maxSize 4000
set_option synthInstance.maxHeartbeats 400000
/-! k44: what the mirrors compute answers True. -/
namespace Mr
/-- alike at the end -/
def alk (J : Jt) : Bool := decide (mrg J.2.1 J.2.2.2.1 J.2.2.2.2 (sty J.1.2.1 J.2.1) (sty J.2.2.1.2.1 J.2.2.2.1) = some [])
theorem alike_ok {t : Nat} {J : Jt} (h : Sz t (some J)) (ht : t ≤ 180) : m_alike_at_end (some J) = some (alk J) := by
  obtain ⟨h1, h2, h3⟩ := h J rfl
  have := setl_len J.2.1 J.2.2.2.1 J.2.2.2.2
  have l1 := sty_len J.1.2.1 J.2.1
  have l2 := sty_len J.2.2.1.2.1 J.2.2.2.1
  unfold m_alike_at_end
  rw [if_neg (by simp)]
  exact bindOk rfl (bindOk rfl (bindOk rfl (bindOk (settled_ok _ _ _) (bindOk rfl (bindOk rfl (bindOk (staying_ok _ (by omega)) (bindOk (catM_ok (by omega)) (bindOk rfl (bindOk rfl (bindOk (staying_ok _ (by omega)) (bindOk (catM_ok (by omega)) (bindOk (matched_ok (by simp; omega)) rfl))))))))))))
/-! ### blocks -/
def nxt (d k : Bool) (b : Bk) : Bool × Bool := if b.2.2.2.2.2.2 = true then (d, k) else if b.1 > 0 then (false, b.2.2.2.2.1) else ((d || b.2.2.2.2.2.1), k)
theorem linP_cons (d k : Bool) (b : Bk) (bs : List Bk) : linP d k (b :: bs) = (if b.2.2.2.2.2.2 = true then [] else blkL (d || b.2.2.2.2.2.1) k b) ++ linP (nxt d k b).1 (nxt d k b).2 bs := by
  rw [linP]
  unfold nxt
  split
  · simp
  · split <;> rfl
def RelS (st : Sd) (d k : Bool) : Prop := (d = true → st.2.1 = 0) ∧ (st.2.1 = 0 ∨ k = decide (st.1 = Wd.kept))
theorem rel_clO {len r : Int} {o : List Int} {k : Bool} : RelS (clO len r o k).1 false k := by
  refine ⟨(fun e => nomatch e), ?_⟩
  unfold clO
  cases k
  · rw [if_neg (by simp)]
    split
    · exact .inl rfl
    · exact .inr rfl
  · rw [if_pos rfl]
    split
    · exact .inl rfl
    · exact .inr rfl
theorem rel_side {st : Sd} {xs : List Int} {d k p l : Bool} (h : RelS st d k) (hl : l = false) : RelS (sideP st xs (p && !l)).1 (d || p) k := by
  subst hl
  cases p
  · simpa [sideP] using h
  · exact ⟨fun _ => rfl, .inl rfl⟩
theorem rel_left {st : Sd} {xs : List Int} {d k p l : Bool} (h : RelS st d k) (hl : l = true) : RelS (sideP st xs (p && !l)).1 d k := by
  subst hl
  simpa [sideP] using h
theorem lines_eq {lens : Int × Int} {J : Jt} {n : Int} {v w : Vl} (hl : LnsOk lens) (r1 r2 : List L3) (d1 k1 d2 k2 : Bool) : ∀ (ks : List Int), (∀ k ∈ ks, k ≠ 0) → ∀ (W : Option Wn), Opt (WOk lens true) W →
    ∃ W', folM (m_joint_lines_b1 lens J n v w) ks W = some W' ∧ Opt (WOk lens true) W' ∧
      (EqW lens W ((ks.map fun k => ((if (decide (k = (0 : Int))) = true then v.2.2.1 else (0 : Int)), (d1 && (decide (k = (0 : Int)))), (if (decide (k = (0 : Int))) = true then k1 else ((decide (k = (1 : Int))) || (decide (k = (n - (1 : Int)))))))) ++ r1)
        ((ks.map fun k => ((if (decide (k = (0 : Int))) = true then w.2.2.1 else (0 : Int)), (d2 && (decide (k = (0 : Int)))), (if (decide (k = (0 : Int))) = true then k2 else ((decide (k = (1 : Int))) || (decide (k = (n - (1 : Int)))))))) ++ r2) ↔ EqW lens W' r1 r2)
  | [], _, W, hW => ⟨W, rfl, hW, Iff.rfl⟩
  | k :: ks, hk, W, hW => by
    have hk0 : ¬ decide (k = (0 : Int)) = true := by
      have := hk k (List.mem_cons_self ..)
      simpa using this
    have hk1 : decide (k = (0 : Int)) = false := by simpa using hk0
    obtain ⟨K, hK, hk2, hiff⟩ := line_eq (W := W) ((0 : Int), (0 : Int)) (((decide (k = (1 : Int))) || (decide (k = (n - (1 : Int))))), ((decide (k = (1 : Int))) || (decide (k = (n - (1 : Int)))))) false ((decide (k = (1 : Int))) || (decide (k = (n - (1 : Int))))) false ((decide (k = (1 : Int))) || (decide (k = (n - (1 : Int)))))
      ((ks.map fun k => ((if (decide (k = (0 : Int))) = true then v.2.2.1 else (0 : Int)), (d1 && (decide (k = (0 : Int)))), (if (decide (k = (0 : Int))) = true then k1 else ((decide (k = (1 : Int))) || (decide (k = (n - (1 : Int)))))))) ++ r1)
      ((ks.map fun k => ((if (decide (k = (0 : Int))) = true then w.2.2.1 else (0 : Int)), (d2 && (decide (k = (0 : Int)))), (if (decide (k = (0 : Int))) = true then k2 else ((decide (k = (1 : Int))) || (decide (k = (n - (1 : Int)))))))) ++ r2) hl ⟨Int.le_refl 0, Int.le_refl 0⟩ hW (fun j _ => ⟨.inr ⟨rfl, rfl⟩, .inr ⟨rfl, rfl⟩⟩)
    obtain ⟨W', hW', hw', hi⟩ := lines_eq (J := J) (n := n) (v := v) (w := w) hl r1 r2 d1 k1 d2 k2 ks (fun y hy => hk y (List.mem_cons_of_mem _ hy)) K hk2
    refine ⟨W', ?_, hw', ?_⟩
    · show (m_joint_lines_b1 lens J n v w W k).bind _ = _
      have e : m_joint_lines_b1 lens J n v w W k = some K := by
        unfold m_joint_lines_b1 m_line_rules
        rw [if_neg hk0]
        exact bindOk rfl (bindOk hK rfl)
      rw [e]; exact hW'
    · rw [← hi, ← hiff, List.map_cons, List.map_cons, if_neg hk0, if_neg hk0, if_neg hk0, hk1, Bool.and_false, Bool.and_false]
      rfl
theorem block_none (lens : Int × Int) (n : Int) (v w : Vl) : m_joint_block lens none n v w = some none := by
  unfold m_joint_block
  rw [pages_of_eq, page_none, Option.bind_some, if_pos (by simp)]
theorem block_eq {lens : Int × Int} {j : Jt} (hl : LnsOk lens) {n : Int} (hn : 0 ≤ n ∧ n ≤ 6) (v w : Vl) (hv : 0 ≤ v.2.2.1) (hw : 0 ≤ w.2.2.1) (h : JOk lens j) {d1 k1 d2 k2 : Bool} (q1 : RelS j.1 d1 k1) (q2 : RelS j.2.2.1 d2 k2)
    (bs1 bs2 : List Bk) (o1 : BkOk bs1) (o2 : BkOk bs2) :
    ∃ K, m_joint_block lens (some j) n v w = some K ∧ Opt (JOk lens) K ∧ (∀ k, K = some k → RelS k.1 (nxt d1 k1 (n, v)).1 (nxt d1 k1 (n, v)).2 ∧ RelS k.2.2.1 (nxt d2 k2 (n, w)).1 (nxt d2 k2 (n, w)).2) ∧
      (EqJ lens (some j) (linP d1 k1 ((n, v) :: bs1)) (linP d2 k2 ((n, w) :: bs2)) ∧ szB (n, v) = szB (n, w) ↔ EqJ lens K (linP (nxt d1 k1 (n, v)).1 (nxt d1 k1 (n, v)).2 bs1) (linP (nxt d2 k2 (n, w)).1 (nxt d2 k2 (n, w)).2 bs2)) := by
  obtain ⟨hp, hpo⟩ := page_in (v.2.2.2.2.1 && (!v.2.2.2.2.2)) (w.2.2.2.2.1 && (!w.2.2.2.2.2)) hl h
  have hxF : (v.2.2.2.2.1 && (!v.2.2.2.2.2)) = true → hdF (linP d1 k1 ((n, v) :: bs1)) := by
    intro e
    simp at e
    have e1 : linP d1 k1 ((n, v) :: bs1) = linP true k1 ((n, v) :: bs1) := by
      rw [linP, linP]
      simp [e.1, e.2]
    rw [e1]; exact linP_hdF
  have hyF : (w.2.2.2.2.1 && (!w.2.2.2.2.2)) = true → hdF (linP d2 k2 ((n, w) :: bs2)) := by
    intro e
    simp at e
    have e1 : linP d2 k2 ((n, w) :: bs2) = linP true k2 ((n, w) :: bs2) := by
      rw [linP, linP]
      simp [e.1, e.2]
    rw [e1]; exact linP_hdF
  have hpe := page_eq _ _ (linP d1 k1 ((n, v) :: bs1)) (linP d2 k2 ((n, w) :: bs2)) hl h hxF hyF
  unfold m_joint_block
  rw [pages_of_eq, hp]
  generalize hR : jp j (v.2.2.2.2.1 && (!v.2.2.2.2.2)) (w.2.2.2.2.1 && (!w.2.2.2.2.2)) = R at hpo hpe
  rw [hpe, linP_cons, linP_cons, Option.bind_some]
  cases R with
  | none => exact ⟨none, if_pos (by simp), opt_none, (fun k e => nomatch e), Iff.intro (fun e => absurd e.1 eqJ_none) (fun e => absurd e eqJ_none)⟩
  | some K =>
    have hKo := hpo K rfl
    have parts : K.1 = (sideP j.1 j.2.1 (v.2.2.2.2.1 && (!v.2.2.2.2.2))).1 ∧ K.2.2.1 = (sideP j.2.2.1 j.2.2.2.1 (w.2.2.2.2.1 && (!w.2.2.2.2.2))).1 := by
      unfold jp mgd at hR
      cases hm : mrg j.2.1 j.2.2.2.1 j.2.2.2.2 (sideP j.1 j.2.1 (v.2.2.2.2.1 && (!v.2.2.2.2.2))).2.2 (sideP j.2.2.1 j.2.2.2.1 (w.2.2.2.2.1 && (!w.2.2.2.2.2))).2.2 with
      | none => rw [hm] at hR; cases hR
      | some r => rw [hm] at hR; cases hR; exact ⟨rfl, rfl⟩
    by_cases hn0 : n = 0
    · refine ⟨some K, if_pos (by simp [hn0]), hpo, ?_, ?_⟩
      · intro k e
        cases e
        rw [parts.1, parts.2]
        have hng : ¬ (n > 0) := by omega
        refine ⟨?_, ?_⟩
        · unfold nxt
          cases hlv : v.2.2.2.2.2
          · simp only [hng, if_false]
            have := rel_side (xs := j.2.1) (p := v.2.2.2.2.1) q1 rfl
            simpa using this
          · have := rel_left (xs := j.2.1) (p := v.2.2.2.2.1) q1 rfl
            simpa using this
        · unfold nxt
          cases hlv : w.2.2.2.2.2
          · simp only [hng, if_false]
            have := rel_side (xs := j.2.2.2.1) (p := w.2.2.2.2.1) q2 rfl
            simpa using this
          · have := rel_left (xs := j.2.2.2.1) (p := w.2.2.2.2.1) q2 rfl
            simpa using this
      · have z1 : (if v.2.2.2.2.2 = true then [] else blkL (d1 || v.2.2.2.2.1) k1 (n, v)) = [] := by
          split
          · rfl
          · exact blkL_nil (by show ¬ n > 0; omega)
        have z2 : (if w.2.2.2.2.2 = true then [] else blkL (d2 || w.2.2.2.2.1) k2 (n, w)) = [] := by
          split
          · rfl
          · exact blkL_nil (by show ¬ n > 0; omega)
        have z3 : szB (n, v) = szB (n, w) := by unfold szB; simp [hn0]
        show (EqJ lens (some K) ((if v.2.2.2.2.2 = true then [] else blkL (d1 || v.2.2.2.2.1) k1 (n, v)) ++ _) ((if w.2.2.2.2.2 = true then [] else blkL (d2 || w.2.2.2.2.1) k2 (n, w)) ++ _) ∧ _) ↔ _
        rw [z1, z2]
        exact Iff.intro (fun e => e.1) (fun e => ⟨e, z3⟩)
    have hpos : n > 0 := by omega
    cases hv5 : v.2.2.2.2.2
    · cases hw5 : w.2.2.2.2.2
      · -- none is left out
        have h0 : Opt (WOk lens false) (some (K.1.2.1, K.2.1, K.2.2.1.2.1, K.2.2.2.1, K.2.2.2.2)) := by
          intro j' e; cases e; exact ⟨sd_in hl.1.1 hKo.1, sd_in hl.2.1 hKo.2.1, hKo.2.2, fun e => by cases e⟩
        obtain ⟨ks, hks, hkn⟩ := idx_pos hpos
        rw [hv5] at parts
        rw [hw5] at parts
        have g1 : RelS K.1 (d1 || v.2.2.2.2.1) k1 := by rw [parts.1]; exact rel_side q1 rfl
        have g2 : RelS K.2.2.1 (d2 || w.2.2.2.2.1) k2 := by rw [parts.2]; exact rel_side q2 rfl
        have n1 : nxt d1 k1 (n, v) = (false, v.2.2.2.1) := by unfold nxt; simp [hv5, hpos]
        have n2 : nxt d2 k2 (n, w) = (false, w.2.2.2.1) := by unfold nxt; simp [hw5, hpos]
        rw [n1, n2]
        have cc : ∀ (st : Sd) (d k : Bool), RelS st d k → st.2.1 = 0 ∨ ((d && true) = false ∧ k = decide (st.1 = Wd.kept)) := by
          intro st d k hr
          by_cases e : st.2.1 = 0
          · exact .inl e
          · refine .inr ⟨?_, ?_⟩
            · cases d
              · rfl
              · exact absurd (hr.1 rfl) e
            · rcases hr.2 with e2 | e2
              · exact absurd e2 e
              · exact e2
        have X1 := linP_hdK (due := false) (kept := v.2.2.2.1) o1
        have X2 := linP_hdK (due := false) (kept := w.2.2.2.1) o2
        generalize hr1 : linP false v.2.2.2.1 bs1 = r1 at X1
        generalize hr2 : linP false w.2.2.2.1 bs2 = r2 at X2
        obtain ⟨W1, hW1, w1, i1⟩ := line_eq (W := some (K.1.2.1, K.2.1, K.2.2.1.2.1, K.2.2.2.1, K.2.2.2.2)) (v.2.2.1, w.2.2.1) ((decide (K.1.1 = Wd.kept)), (decide (K.2.2.1.1 = Wd.kept))) ((d1 || v.2.2.2.2.1) && true) k1 ((d2 || w.2.2.2.2.1) && true) k2
          ((ks.map fun k => ((if (decide (k = (0 : Int))) = true then v.2.2.1 else (0 : Int)), ((d1 || v.2.2.2.2.1) && (decide (k = (0 : Int)))), (if (decide (k = (0 : Int))) = true then k1 else ((decide (k = (1 : Int))) || (decide (k = (n - (1 : Int)))))))) ++ r1)
          ((ks.map fun k => ((if (decide (k = (0 : Int))) = true then w.2.2.1 else (0 : Int)), ((d2 || w.2.2.2.2.1) && (decide (k = (0 : Int)))), (if (decide (k = (0 : Int))) = true then k2 else ((decide (k = (1 : Int))) || (decide (k = (n - (1 : Int)))))))) ++ r2) hl ⟨hv, hw⟩ h0
          (fun j' e => by cases e; exact ⟨cc _ _ _ g1, cc _ _ _ g2⟩)
        obtain ⟨W2, hW2, w2, i2⟩ := lines_eq (J := K) (n := n) (v := v) (w := w) hl r1 r2 (d1 || v.2.2.2.2.1) k1 (d2 || w.2.2.2.2.1) k2 ks hkn W1 w1
        obtain ⟨K2, hK2, k2o, i3, i4⟩ := close_eq v w r1 r2 hl w2 X1 X2
        refine ⟨K2, ?_, k2o, ?_, ?_⟩
        · refine (if_neg (by simp [hn0])).trans ((if_neg (by simp)).trans (bindOk rfl (bindOk ?_ rfl)))
          refine bindOk rfl (bindOk (rngM_ok (by omega) (by omega)) (bindOk ?_ (bindOk hK2 rfl)))
          show folM (m_joint_lines_b1 lens K n v w) (idx n) _ = _
          rw [hks]
          show (m_joint_lines_b1 lens K n v w _ 0).bind _ = _
          have e : m_joint_lines_b1 lens K n v w (some (K.1.2.1, K.2.1, K.2.2.1.2.1, K.2.2.2.1, K.2.2.2.2)) 0 = some W1 := by
            unfold m_joint_lines_b1 m_line_rules
            rw [if_pos (by simp)]
            exact bindOk rfl (bindOk hW1 rfl)
          rw [e]; exact hW2
        · intro k e
          obtain ⟨⟨a1, b1, c1, _⟩, ⟨a2, b2, c2, _⟩⟩ := i4 k e
          rw [c1, c2]
          exact ⟨rel_clO, rel_clO⟩
        · have z3 : szB (n, v) = szB (n, w) := by unfold szB; simp [hv5, hw5]
          have hE : EqJ lens (some K) (blkL (d1 || v.2.2.2.2.1) k1 (n, v) ++ r1) (blkL (d2 || w.2.2.2.2.1) k2 (n, w) ++ r2) ↔ EqJ lens K2 r1 r2 := by
            rw [← i3, ← i2, ← i1]
            unfold blkL
            dsimp only
            rw [hks, List.map_cons, List.map_cons, if_pos (by simp), if_pos (by simp), if_pos (by simp), if_pos (by simp), decide_eq_true rfl]
            constructor
            · rintro ⟨j', e1, e2⟩; cases e1; exact ⟨_, rfl, e2⟩
            · rintro ⟨j', e1, e2⟩; cases e1; exact ⟨_, rfl, e2⟩
          constructor
          · rintro ⟨e, _⟩
            exact hE.mp e
          · intro e
            exact ⟨hE.mpr e, z3⟩
      · -- the second is left out
        refine ⟨none, (if_neg (by simp [hn0])).trans (if_pos (by simp)), opt_none, (fun k e => nomatch e), ?_⟩
        constructor
        · rintro ⟨_, e⟩
          exfalso
          unfold szB at e
          simp [hv5, hw5] at e
          omega
        · intro e; exact absurd e eqJ_none
    · cases hw5 : w.2.2.2.2.2
      · refine ⟨none, (if_neg (by simp [hn0])).trans (if_pos (by simp)), opt_none, (fun k e => nomatch e), ?_⟩
        constructor
        · rintro ⟨_, e⟩
          exfalso
          unfold szB at e
          simp [hv5, hw5] at e
          omega
        · intro e; exact absurd e eqJ_none
      · -- both are left out
        have n1 : nxt d1 k1 (n, v) = (d1, k1) := by unfold nxt; simp [hv5]
        have n2 : nxt d2 k2 (n, w) = (d2, k2) := by unfold nxt; simp [hw5]
        rw [n1, n2]
        refine ⟨some K, if_pos (by simp), hpo, ?_, ?_⟩
        · intro k e
          cases e
          rw [parts.1, parts.2]
          exact ⟨rel_left q1 hv5, rel_left q2 hw5⟩
        · have z3 : szB (n, v) = szB (n, w) := by unfold szB; simp [hv5, hw5]
          exact Iff.intro (fun e => by simpa using e.1) (fun e => ⟨by simpa using e, z3⟩)
/-! ### the row of blocks -/
theorem row_none (lens : Int × Int) : ∀ (r : List RowT), forL (m_law_b1 lens) r none = some (.nx none)
  | [] => rfl
  | x :: r => by
    rw [forL_cons]
    have e : m_law_b1 lens none x = some (.go none) := by
      unfold m_law_b1
      rw [block_none]
      rfl
    rw [e]
    exact row_none lens r
theorem row_eq {lens : Int × Int} (hl : LnsOk lens) : ∀ (r : List RowT) (j : Jt) (d1 k1 d2 k2 : Bool), RowOk r → JOk lens j → RelS j.1 d1 k1 → RelS j.2.2.1 d2 k2 →
    ∃ K, forL (m_law_b1 lens) r (some j) = some (.nx K) ∧ Opt (JOk lens) K ∧
      (EqJ lens (some j) (linP d1 k1 (r.map fun x => (x.1, x.2.1))) (linP d2 k2 (r.map fun x => (x.1, x.2.2))) ∧ (r.map fun x => szB (x.1, x.2.1)) = (r.map fun x => szB (x.1, x.2.2)) ↔ EqJ lens K [] [])
  | [], j, d1, k1, d2, k2, _, hj, _, _ => ⟨some j, rfl, fun k e => by cases e; exact hj, by simp [linP]⟩
  | x :: r, j, d1, k1, d2, k2, hr, hj, q1, q2 => by
    obtain ⟨hx1, hx2, hx3⟩ := hr x (List.mem_cons_self ..)
    have hr' : RowOk r := fun y hy => hr y (List.mem_cons_of_mem _ hy)
    have b1 : BkOk (r.map fun x => (x.1, x.2.1)) := by
      intro b hb
      obtain ⟨y, hy, rfl⟩ := List.mem_map.mp hb
      exact ⟨(hr' y hy).1, (hr' y hy).2.1⟩
    have b2 : BkOk (r.map fun x => (x.1, x.2.2)) := by
      intro b hb
      obtain ⟨y, hy, rfl⟩ := List.mem_map.mp hb
      exact ⟨(hr' y hy).1, (hr' y hy).2.2⟩
    obtain ⟨K, hK, hk, hrel, hiff⟩ := block_eq hl hx1 x.2.1 x.2.2 hx2 hx3 hj q1 q2 _ _ b1 b2
    have e : m_law_b1 lens (some j) x = some (.go K) := by
      unfold m_law_b1
      refine bindOk hK ?_
      rw [if_neg (by simp)]
    rw [forL_cons, e]
    show ∃ L, forL (m_law_b1 lens) r K = some (.nx L) ∧ _
    rw [List.map_cons, List.map_cons, List.map_cons, List.map_cons, List.cons.injEq]
    cases K with
    | none =>
      refine ⟨none, row_none lens r, opt_none, ?_⟩
      constructor
      · rintro ⟨e1, e2, _⟩
        exact absurd (hiff.mp ⟨e1, e2⟩) eqJ_none
      · intro e; exact absurd e eqJ_none
    | some K =>
      obtain ⟨p1, p2⟩ := hrel K rfl
      obtain ⟨L, hL, hlo, hi⟩ := row_eq hl r K _ _ _ _ hr' (hk K rfl) p1 p2
      refine ⟨L, hL, hlo, ?_⟩
      rw [← hi, ← hiff]
      constructor
      · rintro ⟨e1, e2, e3⟩; exact ⟨⟨e1, e2⟩, e3⟩
      · rintro ⟨⟨e1, e2⟩, e3⟩; exact ⟨e1, e2, e3⟩
theorem mtc_eq {α : Type} [DecidableEq α] : ∀ {a b : List α}, mtc a b = some [] ↔ a = b
  | [], b => by rw [mtc_nil_l]; simp [eq_comm]
  | x :: a, [] => by rw [mtc_nil_r]; simp
  | x :: a, y :: b => by
    have e : mtc (x :: a) (y :: b) = if x = y then mtc a b else none := rfl
    rw [e, List.cons.injEq]
    split
    · rename_i h; rw [mtc_eq]; simp [h]
    · rename_i h; simp [h]
theorem alike_eq {lens : Int × Int} (hl : LnsOk lens) {K : Option Jt} (h : Opt (JOk lens) K) : ∃ b, m_alike_at_end K = some b ∧ (b = true ↔ EqJ lens K [] []) := by
  cases K with
  | none => exact ⟨false, rfl, Iff.intro (fun e => by cases e) (fun e => absurd e eqJ_none)⟩
  | some j =>
    refine ⟨alk j, alike_ok (jok_sz hl (h j rfl)) (by decide), ?_⟩
    unfold alk mrg
    rw [decide_eq_true_iff, mtc_eq]
    constructor
    · intro e; exact ⟨j, rfl, e⟩
    · rintro ⟨j', e1, e2⟩; cases e1; exact e2
theorem law_plain (ns : List Int) (h : ns.length ≤ 63) : m_law ns = some true := by
  unfold m_law
  obtain ⟨b, e, k⟩ := bag_ok (ns := ns) (j := 0)
  obtain ⟨x1, b1, e1, _, _, k1⟩ := draw_ok k (n := 3) (by decide) (by decide)
  obtain ⟨x2, b2, e2, _, _, k2⟩ := draw_ok k1 (n := 3) (by decide) (by decide)
  obtain ⟨x3, b3, e3, _, _, k3⟩ := draw_ok k2 (n := 3) (by decide) (by decide)
  have s1 : ∃ lens, (Option.bind (m_law_draw b2 (3 : Int)) fun (r8, r9) =>
    if (decide (r8 > (0 : Int))) then (some (r9, ((((2 : Int) + x1), ((2 : Int) + x2)).1, (((2 : Int) + x1), ((2 : Int) + x2)).1)))
    else (some (r9, (((2 : Int) + x1), ((2 : Int) + x2))))) = some (b3, lens) ∧ LnsOk lens := by
    by_cases h : decide (x3 > (0 : Int)) = true
    · exact ⟨_, bindOk e3 (if_pos h), by constructor <;> dsimp only <;> omega⟩
    · exact ⟨_, bindOk e3 (if_neg h), by constructor <;> dsimp only <;> omega⟩
  obtain ⟨lens, f1, hl⟩ := s1
  obtain ⟨x5, b5, e5, _, _, k5⟩ := draw_ok k3 (n := 9) (by decide) (by decide)
  obtain ⟨r, b6, e6, k6, hr, hrl⟩ := row_ok (n := (1 : Int) + x5) k5 (by omega)
  have j0 : JOk lens ((topS, [], topS, [], []) : Jt) := ⟨.inl ⟨rfl, rfl⟩, .inl ⟨rfl, rfl⟩, st_nil⟩
  have q0 : RelS topS false false := ⟨fun _ => rfl, .inl rfl⟩
  obtain ⟨K, hK, hk, hiff⟩ := row_eq hl r _ false false false false hr j0 q0 q0
  obtain ⟨a, ha, hai⟩ := alike_eq hl hk
  have g1 : BkOk (r.map fun x => (x.1, x.2.1)) := by
    intro b hb
    obtain ⟨y, hy, rfl⟩ := List.mem_map.mp hb
    exact ⟨(hr y hy).1, (hr y hy).2.1⟩
  have g2 : BkOk (r.map fun x => (x.1, x.2.2)) := by
    intro b hb
    obtain ⟨y, hy, rfl⟩ := List.mem_map.mp hb
    exact ⟨(hr y hy).1, (hr y hy).2.2⟩
  have c1 : folM m_law_c2 r [] = some ([] ++ r.map fun x => (x.1, x.2.1)) := folM_app (f := m_law_c2) (fun x => (x.1, x.2.1)) (fun _ _ => rfl) r [] (by simp; omega)
  have c2 : folM m_law_c3 r [] = some ([] ++ r.map fun x => (x.1, x.2.2)) := folM_app (f := m_law_c3) (fun x => (x.1, x.2.2)) (fun _ _ => rfl) r [] (by simp; omega)
  have p1 := by_block_ok lens.1 g1 (by simp; omega)
  have p2 := by_block_ok lens.2 g2 (by simp; omega)
  refine bindOk e (bindOk e1 (bindOk e2 (bindOk f1 (bindOk e5 (bindOk e6 (bindOk begin_ok (bindOk hK ?_)))))))
  refine bindOk c1 (bindOk p1 (bindOk c2 (bindOk p2 (bindOk ha ?_))))
  have hc := cutB_eq (r.map fun x => (x.1, x.2.1)) (r.map fun x => (x.1, x.2.2)) (fin lens.1 0 [] (linP false false (r.map fun x => (x.1, x.2.1)))) (fin lens.2 0 [] (linP false false (r.map fun x => (x.1, x.2.2))))
    (by simp) (by rw [fin_len, linP_len]; simp) (by rw [fin_len, linP_len]; simp) (fun b hb => (g1 b hb).1.1) (fun b hb => (g2 b hb).1.1)
  have key : (a = true) ↔ cutB (r.map fun x => (x.1, x.2.1)) (fin lens.1 0 [] (linP false false (r.map fun x => (x.1, x.2.1)))) = cutB (r.map fun x => (x.1, x.2.2)) (fin lens.2 0 [] (linP false false (r.map fun x => (x.1, x.2.2)))) := by
    rw [hai, ← hiff, hc, List.map_map, List.map_map]
    constructor
    · rintro ⟨⟨j', e1, e2⟩, e3⟩
      cases e1
      exact ⟨e2, e3⟩
    · rintro ⟨e2, e3⟩
      exact ⟨⟨_, rfl, e2⟩, e3⟩
  have fin_ : (a == decide (cutB (r.map fun x => (x.1, x.2.1)) (fin lens.1 0 [] (linP false false (r.map fun x => (x.1, x.2.1)))) = cutB (r.map fun x => (x.1, x.2.2)) (fin lens.2 0 [] (linP false false (r.map fun x => (x.1, x.2.2)))))) = true := by
    cases a
    · rw [decide_eq_false (fun e => by have := key.mpr e; cases this)]; rfl
    · rw [decide_eq_true (key.mp rfl)]; rfl
  show some (true && (a == _)) = some true
  rw [Bool.true_and]
  exact congrArg some fin_
end Mr

set_option Elab.async false
set_option linter.all false
set_option maxRecDepth 100000
set_option maxHeartbeats 4000000
set_option synthInstance.maxSize 4000
set_option synthInstance.maxHeartbeats 400000
namespace Mr
open PySem PySem.Spec PyProof.Rows L2
def mkD (n : Str) (i : Nat) : He.DefD := ⟨(n, none), n, n, defArgs (top i), defBody (top i), defScope (top i), [], []⟩
def fn : List He.DefD := [mkD "back_rows" 1, mkD "staying" 2, mkD "going_over" 3, mkD "fitting" 4, mkD "side_line" 5, mkD "close_side" 6, mkD "fresh_side" 7, mkD "joint_begin" 10, mkD "matched" 11, mkD "settled_lists" 12, mkD "merged" 13, mkD "joint_page" 14, mkD "joint_pages_of" 15, mkD "inside" 16, mkD "joint_line" 17, mkD "joint_close" 18, mkD "line_rules" 19, mkD "joint_lines" 20, mkD "joint_block" 21, mkD "alike_at_end" 22, mkD "_law_bag" 24, mkD "_law_draw" 25, mkD "_law_values" 27, mkD "_law_row" 28, mkD "_law_lines" 29, mkD "_law_cut" 30, mkD "_law_places" 31, mkD "_law_by_block" 32, mkD "law" 33]
def fa : List He.Fa := [.glo "back_rows", .glo "staying", .glo "going_over", .glo "fitting", .glo "side_line", .glo "close_side", .glo "fresh_side", .glo "joint_begin", .glo "matched", .glo "settled_lists", .glo "merged", .glo "joint_page", .glo "joint_pages_of", .glo "inside", .glo "joint_line", .glo "joint_close", .glo "line_rules", .glo "joint_lines", .glo "joint_block", .glo "alike_at_end", .glo "_law_bag", .glo "_law_draw", .glo "_law_values", .glo "_law_row", .glo "_law_lines", .glo "_law_cut", .glo "_law_places", .glo "_law_by_block", .glo "law", .free "abs", .free "bool", .free "enumerate", .free "int", .free "isinstance", .free "len", .free "list", .free "min", .free "range", .free "tuple", .str "PARTED" "parted"]
abbrev Rw : PySem.W.OpenRow := PySem.W.OpenLaw.row PySem.Challenge.rw_pressalike_k44_joint_blocks_and_plain_pa
abbrev hk : PySem.W.Hook := He.hookD 4 fa fn
def ob (s : PySem.W.SharedT) : He.AlD := He.obsDG 4 fa fn (HandSHeadRun.getT s)
theorem ob_eq (s : PySem.W.SharedT) : ob s = hk.obs s.abs := He.obsDG_eq (HandSHeadRun.getT_eq s)
theorem run (w : World) : HandSHeadRun.RunEq Rw (PySem.W.view Rw.prog [33]) hk ob 2000 ["back_rows", "staying", "going_over", "fitting", "side_line", "close_side", "fresh_side", "PARTED", "joint_begin", "matched", "settled_lists", "merged", "joint_page", "joint_pages_of", "inside", "joint_line", "joint_close", "line_rules", "joint_lines", "joint_block", "alike_at_end", "_law_bag", "_law_draw", "_law_one", "_law_values", "_law_row", "_law_lines", "_law_cut", "_law_places", "_law_by_block"] w := by
  intro os
  kernel_rfl
theorem facts {P : Program} {w : World} {K : PySem.W.Frag} {h : Heap} {mg : Str → Option Value} {f : Addr} (X : K.In h) (G : h.Ns mainGlobals mg) (hfa : mg ("law" : Str) = some (.ref f)) (c : He.SaysD fa fn K) :
    ∃ fd : FuncData, (∀ (s : Shared) (v : Value), BindsTo s fd ⟨[v], []⟩ [("_law_script", v)]) ∧ ∀ base : Heap, K.In base → base.Ns mainGlobals mg → FnOk P w K mg base CX0 8 f fd ["_law_script"] (sp_law K) := by
  obtain ⟨fd_back_rows, F_back_rows⟩ := c.def_ 0 rfl
  obtain ⟨fd_staying, F_staying⟩ := c.def_ 1 rfl
  obtain ⟨fd_going_over, F_going_over⟩ := c.def_ 2 rfl
  obtain ⟨fd_fitting, F_fitting⟩ := c.def_ 3 rfl
  obtain ⟨fd_side_line, F_side_line⟩ := c.def_ 4 rfl
  obtain ⟨fd_close_side, F_close_side⟩ := c.def_ 5 rfl
  obtain ⟨fd_fresh_side, F_fresh_side⟩ := c.def_ 6 rfl
  obtain ⟨fd_joint_begin, F_joint_begin⟩ := c.def_ 7 rfl
  obtain ⟨fd_matched, F_matched⟩ := c.def_ 8 rfl
  obtain ⟨fd_settled_lists, F_settled_lists⟩ := c.def_ 9 rfl
  obtain ⟨fd_merged, F_merged⟩ := c.def_ 10 rfl
  obtain ⟨fd_joint_page, F_joint_page⟩ := c.def_ 11 rfl
  obtain ⟨fd_joint_pages_of, F_joint_pages_of⟩ := c.def_ 12 rfl
  obtain ⟨fd_inside, F_inside⟩ := c.def_ 13 rfl
  obtain ⟨fd_joint_line, F_joint_line⟩ := c.def_ 14 rfl
  obtain ⟨fd_joint_close, F_joint_close⟩ := c.def_ 15 rfl
  obtain ⟨fd_line_rules, F_line_rules⟩ := c.def_ 16 rfl
  obtain ⟨fd_joint_lines, F_joint_lines⟩ := c.def_ 17 rfl
  obtain ⟨fd_joint_block, F_joint_block⟩ := c.def_ 18 rfl
  obtain ⟨fd_alike_at_end, F_alike_at_end⟩ := c.def_ 19 rfl
  obtain ⟨fd_law_bag, F_law_bag⟩ := c.def_ 20 rfl
  obtain ⟨fd_law_draw, F_law_draw⟩ := c.def_ 21 rfl
  obtain ⟨fd_law_values, F_law_values⟩ := c.def_ 22 rfl
  obtain ⟨fd_law_row, F_law_row⟩ := c.def_ 23 rfl
  obtain ⟨fd_law_lines, F_law_lines⟩ := c.def_ 24 rfl
  obtain ⟨fd_law_cut, F_law_cut⟩ := c.def_ 25 rfl
  obtain ⟨fd_law_places, F_law_places⟩ := c.def_ 26 rfl
  obtain ⟨fd_law_by_block, F_law_by_block⟩ := c.def_ 27 rfl
  obtain ⟨fd_law, F_law⟩ := c.def_ 28 rfl
  let T : Tx K mg := {
    fd_back_rows := fd_back_rows
    F_back_rows := F_back_rows
    g_back_rows := He.glo_ok X G (c.fact 0 rfl)
    b_back_rows := F_back_rows.bindsN fun _ _ _ _ _ _ us hl => (match us, hl with | [_], _ => rfl)
    fd_staying := fd_staying
    F_staying := F_staying
    g_staying := He.glo_ok X G (c.fact 1 rfl)
    b_staying := F_staying.bindsN fun _ _ _ _ _ _ us hl => (match us, hl with | [_, _], _ => rfl)
    fd_going_over := fd_going_over
    F_going_over := F_going_over
    g_going_over := He.glo_ok X G (c.fact 2 rfl)
    b_going_over := F_going_over.bindsN fun _ _ _ _ _ _ us hl => (match us, hl with | [_], _ => rfl)
    fd_fitting := fd_fitting
    F_fitting := F_fitting
    g_fitting := He.glo_ok X G (c.fact 3 rfl)
    b_fitting := F_fitting.bindsN fun _ _ _ _ _ _ us hl => (match us, hl with | [_, _, _, _], _ => rfl)
    fd_side_line := fd_side_line
    F_side_line := F_side_line
    g_side_line := He.glo_ok X G (c.fact 4 rfl)
    b_side_line := F_side_line.bindsN fun _ _ _ _ _ _ us hl => (match us, hl with | [_, _, _, _], _ => rfl)
    fd_close_side := fd_close_side
    F_close_side := F_close_side
    g_close_side := He.glo_ok X G (c.fact 5 rfl)
    b_close_side := F_close_side.bindsN fun _ _ _ _ _ _ us hl => (match us, hl with | [_, _, _], _ => rfl)
    fd_fresh_side := fd_fresh_side
    F_fresh_side := F_fresh_side
    g_fresh_side := He.glo_ok X G (c.fact 6 rfl)
    b_fresh_side := F_fresh_side.bindsN fun _ _ _ _ _ _ us hl => (match us, hl with | [_, _], _ => rfl)
    fd_joint_begin := fd_joint_begin
    F_joint_begin := F_joint_begin
    g_joint_begin := He.glo_ok X G (c.fact 7 rfl)
    b_joint_begin := F_joint_begin.bindsN fun _ _ _ _ _ _ us hl => (match us, hl with | [], _ => rfl)
    fd_matched := fd_matched
    F_matched := F_matched
    g_matched := He.glo_ok X G (c.fact 8 rfl)
    b_matched := F_matched.bindsN fun _ _ _ _ _ _ us hl => (match us, hl with | [_, _], _ => rfl)
    fd_settled_lists := fd_settled_lists
    F_settled_lists := F_settled_lists
    g_settled_lists := He.glo_ok X G (c.fact 9 rfl)
    b_settled_lists := F_settled_lists.bindsN fun _ _ _ _ _ _ us hl => (match us, hl with | [_, _, _], _ => rfl)
    fd_merged := fd_merged
    F_merged := F_merged
    g_merged := He.glo_ok X G (c.fact 10 rfl)
    b_merged := F_merged.bindsN fun _ _ _ _ _ _ us hl => (match us, hl with | [_, _, _], _ => rfl)
    fd_joint_page := fd_joint_page
    F_joint_page := F_joint_page
    g_joint_page := He.glo_ok X G (c.fact 11 rfl)
    b_joint_page := F_joint_page.bindsN fun _ _ _ _ _ _ us hl => (match us, hl with | [_, _, _], _ => rfl)
    fd_joint_pages_of := fd_joint_pages_of
    F_joint_pages_of := F_joint_pages_of
    g_joint_pages_of := He.glo_ok X G (c.fact 12 rfl)
    b_joint_pages_of := F_joint_pages_of.bindsN fun _ _ _ _ _ _ us hl => (match us, hl with | [_, _, _], _ => rfl)
    fd_inside := fd_inside
    F_inside := F_inside
    g_inside := He.glo_ok X G (c.fact 13 rfl)
    b_inside := F_inside.bindsN fun _ _ _ _ _ _ us hl => (match us, hl with | [_], _ => rfl)
    fd_joint_line := fd_joint_line
    F_joint_line := F_joint_line
    g_joint_line := He.glo_ok X G (c.fact 14 rfl)
    b_joint_line := F_joint_line.bindsN fun _ _ _ _ _ _ us hl => (match us, hl with | [_, _, _, _], _ => rfl)
    fd_joint_close := fd_joint_close
    F_joint_close := F_joint_close
    g_joint_close := He.glo_ok X G (c.fact 15 rfl)
    b_joint_close := F_joint_close.bindsN fun _ _ _ _ _ _ us hl => (match us, hl with | [_, _, _, _], _ => rfl)
    fd_line_rules := fd_line_rules
    F_line_rules := F_line_rules
    g_line_rules := He.glo_ok X G (c.fact 16 rfl)
    b_line_rules := F_line_rules.bindsN fun _ _ _ _ _ _ us hl => (match us, hl with | [_, _, _, _, _], _ => rfl)
    fd_joint_lines := fd_joint_lines
    F_joint_lines := F_joint_lines
    g_joint_lines := He.glo_ok X G (c.fact 17 rfl)
    b_joint_lines := F_joint_lines.bindsN fun _ _ _ _ _ _ us hl => (match us, hl with | [_, _, _, _, _], _ => rfl)
    fd_joint_block := fd_joint_block
    F_joint_block := F_joint_block
    g_joint_block := He.glo_ok X G (c.fact 18 rfl)
    b_joint_block := F_joint_block.bindsN fun _ _ _ _ _ _ us hl => (match us, hl with | [_, _, _, _, _], _ => rfl)
    fd_alike_at_end := fd_alike_at_end
    F_alike_at_end := F_alike_at_end
    g_alike_at_end := He.glo_ok X G (c.fact 19 rfl)
    b_alike_at_end := F_alike_at_end.bindsN fun _ _ _ _ _ _ us hl => (match us, hl with | [_], _ => rfl)
    fd_law_bag := fd_law_bag
    F_law_bag := F_law_bag
    g_law_bag := He.glo_ok X G (c.fact 20 rfl)
    b_law_bag := F_law_bag.bindsN fun _ _ _ _ _ _ us hl => (match us, hl with | [_, _], _ => rfl)
    fd_law_draw := fd_law_draw
    F_law_draw := F_law_draw
    g_law_draw := He.glo_ok X G (c.fact 21 rfl)
    b_law_draw := F_law_draw.bindsN fun _ _ _ _ _ _ us hl => (match us, hl with | [_, _], _ => rfl)
    fd_law_values := fd_law_values
    F_law_values := F_law_values
    g_law_values := He.glo_ok X G (c.fact 22 rfl)
    b_law_values := F_law_values.bindsN fun _ _ _ _ _ _ us hl => (match us, hl with | [_], _ => rfl)
    fd_law_row := fd_law_row
    F_law_row := F_law_row
    g_law_row := He.glo_ok X G (c.fact 23 rfl)
    b_law_row := F_law_row.bindsN fun _ _ _ _ _ _ us hl => (match us, hl with | [_, _], _ => rfl)
    fd_law_lines := fd_law_lines
    F_law_lines := F_law_lines
    g_law_lines := He.glo_ok X G (c.fact 24 rfl)
    b_law_lines := F_law_lines.bindsN fun _ _ _ _ _ _ us hl => (match us, hl with | [_], _ => rfl)
    fd_law_cut := fd_law_cut
    F_law_cut := F_law_cut
    g_law_cut := He.glo_ok X G (c.fact 25 rfl)
    b_law_cut := F_law_cut.bindsN fun _ _ _ _ _ _ us hl => (match us, hl with | [_, _, _], _ => rfl)
    fd_law_places := fd_law_places
    F_law_places := F_law_places
    g_law_places := He.glo_ok X G (c.fact 26 rfl)
    b_law_places := F_law_places.bindsN fun _ _ _ _ _ _ us hl => (match us, hl with | [_, _], _ => rfl)
    fd_law_by_block := fd_law_by_block
    F_law_by_block := F_law_by_block
    g_law_by_block := He.glo_ok X G (c.fact 27 rfl)
    b_law_by_block := F_law_by_block.bindsN fun _ _ _ _ _ _ us hl => (match us, hl with | [_, _], _ => rfl)
    fd_law := fd_law
    F_law := F_law
    g_law := He.glo_ok X G (c.fact 28 rfl)
    b_law := F_law.bindsN fun _ _ _ _ _ _ us hl => (match us, hl with | [_], _ => rfl)
    z_abs := He.free_ok X G (c.fact 29 rfl)
    z_bool := He.free_ok X G (c.fact 30 rfl)
    z_enumerate := He.free_ok X G (c.fact 31 rfl)
    z_int := He.free_ok X G (c.fact 32 rfl)
    z_isinstance := He.free_ok X G (c.fact 33 rfl)
    z_len := He.free_ok X G (c.fact 34 rfl)
    z_list := He.free_ok X G (c.fact 35 rfl)
    z_min := He.free_ok X G (c.fact 36 rfl)
    z_range := He.free_ok X G (c.fact 37 rfl)
    z_tuple := He.free_ok X G (c.fact 38 rfl)
    c_PARTED := He.str_ok X G (c.fact 39 rfl) }
  have e := hfa.symm.trans T.g_law
  cases e
  have b := FunD.bindsA (ps := ["_law_script"]) F_law fun _ _ _ _ _ _ us hl => match us, hl with | [_], _ => rfl
  exact ⟨fd_law, fun s v => b s [v] rfl, fun base _ _ => ok_law T⟩
end Mr
open PySem PySem.W PySem.Calls PyProof.Rows
theorem PySem.Challenge.cw_pressalike_k44_joint_blocks_and_plain_pa_holds : PySem.Challenge.rw_pressalike_k44_joint_blocks_and_plain_pa.Holds := by
  w_on; o_law
  refine HandSHeadRun.head_any (r := OpenLaw.row PySem.Challenge.rw_pressalike_k44_joint_blocks_and_plain_pa) (q := view (OpenLaw.row PySem.Challenge.rw_pressalike_k44_joint_blocks_and_plain_pa).prog [33]) (H := Mr.hk) (ob := Mr.ob) (M := 2000) (loose := ["back_rows", "staying", "going_over", "fitting", "side_line", "close_side", "fresh_side", "PARTED", "joint_begin", "matched", "settled_lists", "merged", "joint_page", "joint_pages_of", "inside", "joint_line", "joint_close", "line_rules", "joint_lines", "joint_block", "alike_at_end", "_law_bag", "_law_draw", "_law_one", "_law_values", "_law_row", "_law_lines", "_law_cut", "_law_places", "_law_by_block"]) (d := HandSHeadRun.topDef (OpenLaw.row PySem.Challenge.rw_pressalike_k44_joint_blocks_and_plain_pa).prog 33) (kwd := []) Mr.ob_eq
    (by kernel_rfl) (fun s => by kernel_rfl) Mr.run (by kernel_rfl) (by kernel_rfl) (by kernel_rfl) (by rfl) (by first | assumption | decide +kernel) (by decide +kernel) ⟨rfl, rfl, rfl, rfl, rfl, by decide +kernel⟩ ?hw ?hc
  case hw => w_witness2
  case hc =>
    refine L2.walk_ofE (l := PySem.Challenge.rw_pressalike_k44_joint_blocks_and_plain_pa) (n := 63) (k := 8) (x := "_law_script") (CX := L2.CX0) rfl (by decide) (by kernel_rfl) ⟨rfl, by decide, by decide⟩ ?F (fun _ _ _ _ z => z)
    intro w mg fa h Y G hmg0
    obtain ⟨K, KX, c⟩ := Y
    have hmg : mg ("law" : PySem.Str) = some (.ref fa) := by
      have e : (HandSHeadRun.topDef (OpenLaw.row PySem.Challenge.rw_pressalike_k44_joint_blocks_and_plain_pa).prog 33).name = ("law" : PySem.Str) := by kernel_rfl
      rw [← e]
      exact hmg0
    obtain ⟨fd, hb, hF⟩ := Mr.facts (P := (PySem.Challenge.rw_pressalike_k44_joint_blocks_and_plain_pa).prog) (w := w) KX G hmg c
    exact ⟨K, fd, Mr.sp_law K, KX, hb, fun H a ns hl _ hS => ⟨H, [], .ref a, ns, rfl, Mr.Sub.of H, ⟨a, _, rfl, hS, Mr.Al.ofSc⟩, true, Mr.law_plain ns hl, fun _ _ _ _ => rfl⟩, hF⟩
