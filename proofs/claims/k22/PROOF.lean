import PyProof.Rows.All
import Wide.All
import OpenK.AllK
import Wide.FinOn
import HandS.ForMost
import KE.GoesEnum
import HandS.ForExc
import HandS.Wide
import HandS.IsInst
import HandS.Style
import HandS.Walk
import HandS.Conv
import HandS.Flow
import HandS.Defaults
import HandS.Head0
import HandS.Head1
import HandS.Head2
import HandS.HeadEnd
import HandS.HeadHook1
import HandS.HeadHook2
import HandS.HeadWalk
import PySem.Challenge.RW_pressalike_k22_widths_filled
set_option linter.all false
set_option maxRecDepth 100000
/-! MirP: the plain part of the mirrors: Option computations (none: the model's rules do not cover it), folds, loops. -/
namespace Mr
theorem bindS {α β : Type} {o : Option α} {f : α → Option β} {r : β} (h : o.bind f = some r) : ∃ a, o = some a ∧ f a = some r := by
  cases o with
  | none => cases h
  | some a => exact ⟨a, rfl, h⟩
def fdivM (a b : Int) : Option Int := if 0 < b ∧ b.natAbs.log2 < 9000 then some (a / b) else none
def modM (a b : Int) : Option Int := if 0 < b then some (a % b) else none
def mulM (a b : Int) : Option Int := if (-(2 ^ 64) < a ∧ a < 2 ^ 64) ∨ (-(2 ^ 64) < b ∧ b < 2 ^ 64) then some (a * b) else none
def ixM (n : Nat) (i : Int) : Option Nat := if 0 ≤ i then (if i < n then some i.toNat else none) else if -(n : Int) ≤ i then some (i + n).toNat else none
def getM {α : Type} (xs : List α) (i : Int) : Option α := (ixM xs.length i).bind fun j => xs[j]?
def setM {α : Type} (xs : List α) (i : Int) (x : α) : Option (List α) := (ixM xs.length i).bind fun j => some (xs.set j x)
def appM {α : Type} (xs : List α) (x : α) : Option (List α) := if xs.length < 100000 then some (xs ++ [x]) else none
def rngM (n : Int) : Option (List Int) := if -(2 ^ 62) ≤ n ∧ n < 2 ^ 62 then some ((List.range n.toNat).map fun (i : Nat) => (i : Int)) else none
def rng2M (a b : Int) : Option (List Int) := if -(2 ^ 62) ≤ a ∧ a < 2 ^ 62 ∧ -(2 ^ 62) ≤ b ∧ b < 2 ^ 62 then some ((List.range (b - a).toNat).map fun (i : Nat) => a + (i : Int)) else none
def enumF {α : Type} : Nat → List α → List (Int × α)
  | _, [] => []
  | k, x :: xs => ((k : Int), x) :: enumF (k + 1) xs
def enumM {α : Type} (xs : List α) : List (Int × α) := enumF 0 xs
def slIx (n d : Nat) : Option Int → Nat
  | none => d
  | some v => if v < 0 then (v + (n : Int)).toNat else min v.toNat n
def cutM {α : Type} (xs : List α) (lo hi : Option Int) : List α := (xs.drop (slIx xs.length 0 lo)).take (slIx xs.length xs.length hi - slIx xs.length 0 lo)
/-- a loop that is never left -/
def folM {α σ : Type} (f : σ → α → Option σ) : List α → σ → Option σ
  | [], s => some s
  | x :: xs, s => (f s x).bind fun s' => folM f xs s'
/-- a turn's end, a loop's end -/
inductive Bf (σ ρ : Type) where
  | go (s : σ) | bk (s : σ) | rt (r : ρ)
inductive Fl (σ ρ : Type) where
  | nx (s : σ) | rt (r : ρ)
def forL {α σ ρ : Type} (f : σ → α → Option (Bf σ ρ)) : List α → σ → Option (Fl σ ρ)
  | [], s => some (.nx s)
  | x :: xs, s => (f s x).bind fun b => match b with
    | .go s' => forL f xs s'
    | .bk s' => some (.nx s')
    | .rt r => some (.rt r)
def conL {α σ ρ : Type} (f : σ → α → Option (Bf σ ρ)) (xs : List α) : Bf σ ρ → Option (Fl σ ρ)
  | .go s' => forL f xs s'
  | .bk s' => some (.nx s')
  | .rt r => some (.rt r)
theorem forL_cons {α σ ρ : Type} {f : σ → α → Option (Bf σ ρ)} {x : α} {xs : List α} {s : σ} : forL f (x :: xs) s = (f s x).bind (conL f xs) := by
  show (f s x).bind _ = _
  congr 1
/-- [e for x in xs if t]: none of a turn: left out -/
def mapM' {α β : Type} (f : α → Option β) : List α → Option (List β)
  | [] => some []
  | x :: xs => (f x).bind fun y => (mapM' f xs).bind fun ys => some (y :: ys)
def selM {α β : Type} (f : α → Option (Option β)) : List α → Option (List β)
  | [] => some []
  | x :: xs => (f x).bind fun y => (selM f xs).bind fun ys => some (match y with
    | some z => z :: ys
    | none => ys)
/-- while: n turns at most -/
def whlM {σ : Type} (c : σ → Option Bool) (f : σ → Option σ) : Nat → σ → Option σ
  | 0, _ => none
  | n + 1, s => (c s).bind fun b => if b then (f s).bind fun s' => whlM c f n s' else some s
def goF {α σ : Type} (ρ : Type) (f : σ → α → Option σ) : σ → α → Option (Bf σ ρ) := fun s x => (f s x).bind fun s' => some (.go s')
theorem goF_some {α σ ρ : Type} {f : σ → α → Option σ} {s : σ} {x : α} {b : Bf σ ρ} (h : goF ρ f s x = some b) : ∃ s', f s x = some s' ∧ Bf.go s' = b := by
  obtain ⟨s', h1, h2⟩ := bindS h
  exact ⟨s', h1, Option.some.inj h2⟩
theorem fol_for {α σ : Type} (ρ : Type) {f : σ → α → Option σ} : ∀ {xs : List α} {s r : σ}, folM f xs s = some r → forL (goF ρ f) xs s = some (.nx r)
  | [], s, r, h => by cases h; rfl
  | x :: xs, s, r, h => by
    obtain ⟨s', h1, h2⟩ := bindS h
    rw [forL_cons]
    show ((f s x).bind fun s' => some (Bf.go s')).bind _ = _
    rw [h1]
    exact fol_for ρ h2
theorem mulM_some {a b x : Int} (h : mulM a b = some x) : ((-(2 ^ 64) < a ∧ a < 2 ^ 64) ∨ (-(2 ^ 64) < b ∧ b < 2 ^ 64)) ∧ a * b = x := by
  unfold mulM at h
  split at h
  · rename_i c; exact ⟨c, Option.some.inj h⟩
  · cases h
theorem fdivM_some {a b x : Int} (h : fdivM a b = some x) : (0 < b ∧ b.natAbs.log2 < 9000) ∧ a / b = x := by
  unfold fdivM at h
  split at h
  · rename_i c; exact ⟨c, Option.some.inj h⟩
  · cases h
theorem modM_some {a b x : Int} (h : modM a b = some x) : 0 < b ∧ a % b = x := by
  unfold modM at h
  split at h
  · rename_i c; exact ⟨c, Option.some.inj h⟩
  · cases h
theorem appM_some {α : Type} {xs ys : List α} {x : α} (h : appM xs x = some ys) : xs.length < 100000 ∧ xs ++ [x] = ys := by
  unfold appM at h
  split at h
  · rename_i c; exact ⟨c, Option.some.inj h⟩
  · cases h
theorem setM_some {α : Type} {xs ys : List α} {i : Int} {x : α} (h : setM xs i x = some ys) : ∃ j, ixM xs.length i = some j ∧ xs.set j x = ys := by
  obtain ⟨j, h1, h2⟩ := bindS h
  exact ⟨j, h1, Option.some.inj h2⟩
theorem rngM_some {n : Int} {xs : List Int} (h : rngM n = some xs) : (-(2 ^ 62) ≤ n ∧ n < 2 ^ 62) ∧ (List.range n.toNat).map (fun (i : Nat) => (i : Int)) = xs := by
  unfold rngM at h
  split at h
  · rename_i c; exact ⟨c, Option.some.inj h⟩
  · cases h
theorem rng2M_some {a b : Int} {xs : List Int} (h : rng2M a b = some xs) : (-(2 ^ 62) ≤ a ∧ a < 2 ^ 62 ∧ -(2 ^ 62) ≤ b ∧ b < 2 ^ 62) ∧ (List.range (b - a).toNat).map (fun (i : Nat) => a + (i : Int)) = xs := by
  unfold rng2M at h
  split at h
  · rename_i c; exact ⟨c, Option.some.inj h⟩
  · cases h
theorem folM_drop {α σ : Type} {f : σ → α → Option σ} {xs : List α} {s r : σ} {i : Nat} {x : α} (hx : xs[i]? = some x) (h : folM f (xs.drop i) s = some r) :
    ∃ s', f s x = some s' ∧ folM f (xs.drop (i + 1)) s' = some r := by
  have hi : i < xs.length := (List.getElem?_eq_some_iff.mp hx).1
  have e : xs[i] = x := (List.getElem?_eq_some_iff.mp hx).2
  rw [List.drop_eq_getElem_cons hi, e] at h
  exact bindS h
theorem forL_drop {α σ ρ : Type} {f : σ → α → Option (Bf σ ρ)} {xs : List α} {s : σ} {r : Fl σ ρ} {i : Nat} {x : α} (hx : xs[i]? = some x) (h : forL f (xs.drop i) s = some r) :
    ∃ b, f s x = some b ∧ conL f (xs.drop (i + 1)) b = some r := by
  have hi : i < xs.length := (List.getElem?_eq_some_iff.mp hx).1
  have e : xs[i] = x := (List.getElem?_eq_some_iff.mp hx).2
  rw [List.drop_eq_getElem_cons hi, e, forL_cons] at h
  exact bindS h
theorem enumF_get {α : Type} : ∀ (xs : List α) (k i : Nat), (enumF k xs)[i]? = (xs[i]?).map fun x => (((k + i : Nat) : Int), x)
  | [], k, i => by simp [enumF]
  | x :: xs, k, 0 => by simp [enumF]
  | x :: xs, k, i + 1 => by
    show (enumF (k + 1) xs)[i]? = _
    rw [enumF_get xs (k + 1) i]
    have e : k + 1 + i = k + (i + 1) := by omega
    rw [e]
    rfl
theorem enumF_length {α : Type} : ∀ (xs : List α) (k : Nat), (enumF k xs).length = xs.length
  | [], _ => rfl
  | x :: xs, k => congrArg Nat.succ (enumF_length xs (k + 1))
theorem enumM_get {α : Type} (xs : List α) (i : Nat) : (enumM xs)[i]? = (xs[i]?).map fun x => ((i : Int), x) := by
  unfold enumM
  rw [enumF_get, Nat.zero_add]
theorem enumM_length {α : Type} (xs : List α) : (enumM xs).length = xs.length := enumF_length xs 0
end Mr

set_option Elab.async false
set_option linter.all false
set_option maxRecDepth 100000
set_option maxHeartbeats 2000000
/-! MirE: enumerate of a tuple, of a list or a tuple. -/
namespace Mr
open PySem PySem.Spec PyProof.Rows L2
theorem meets_enum1 {v : Value} {o : Obj} {H : Heap → Prop} (B : Begins v o H) :
    Meets (Builtin.«enumerate.__new__» ⟨[.type "enumerate", v], []⟩) (fun _ R s => H s.heap ∧
      R (.ok (.ret (.ref (s.heap.push o).objs.size))) { s with heap := (s.heap.push o).push { cls := .type "enumerate", data := .fields #[.none, .bool false, .ref s.heap.objs.size, rawInt 0, .none, .none] } }) :=
  .of_wp fun prog w A R s h => by
    obtain ⟨hp, g, d, tk, os⟩ := s; obtain ⟨h1, h⟩ := h
    have hsub := sub_enumerate
    have q1 : ∀ {A' : Around} {E : Value → Shared → Prop} {Q : Value → Shared → Prop}, Q (.ref hp.objs.size) ⟨hp.push o, g, d, tk, os⟩ → wpAny (model prog w) A' (pyIter v) Q E ⟨hp, g, d, tk, os⟩ :=
      fun q => B.iter prog w _ _ ⟨hp, g, d, tk, os⟩ _ h1 q
    wp_walk using q1
    refine wpAny_stack_any fun st => wpAny_pure ?_
    split
    · rename_i c _ _ _ _ _
      cases (c == Value.type "enumerate")
      · wp_walk using q1
        exact ⟨_, rfl, h⟩
      · wp_walk using q1
        exact ⟨_, rfl, h⟩
    · wp_walk using q1
      exact ⟨_, rfl, h⟩
theorem call_enum1 {prog : Program} {w : World} {A : Around} {E : Value → Shared → Prop} {s : Shared} {v : Value} {o : Obj} {H : Heap → Prop} {Q : Value → Shared → Prop} (B : Begins v o H) (h1 : H s.heap)
    (h : ∀ h', IsEnum h' (s.heap.objs.size + 1) s.heap.objs.size 0 .none → h'.get? s.heap.objs.size = some o → h'.objs.size = s.heap.objs.size + 2 →
      (∀ b o, s.heap.get? b = some o → h'.get? b = some o) → Q (.ref (s.heap.objs.size + 1)) { s with heap := h' }) :
    wpAny (model prog w) A (call (.type "enumerate") [v]) Q E s := by
  refine callType_new F.called_enumerate (by decide) (F.typeCall_enumerate_1 _) (F.newCall_enumerate_1 _) (fun obj => F.args_object_init_2 obj _) F.entry_enumerate_new
    (meets_enum1 B) ⟨h1, ?_⟩
  have hz : (s.heap.push o).objs.size = s.heap.objs.size + 1 := Heap.size_push ..
  show _ ∧ _
  rw [hz]
  have he : IsEnum ((s.heap.push o).push { cls := .type "enumerate", data := .fields #[.none, .bool false, .ref s.heap.objs.size, rawInt 0, .none, .none] }) (s.heap.objs.size + 1) s.heap.objs.size 0 .none := by
    have := Heap.get?_push_size (s.heap.push o) (o := { cls := .type "enumerate", data := .fields #[.none, .bool false, .ref s.heap.objs.size, rawInt 0, .none, .none] }) rfl
    rw [hz] at this; exact this
  refine ⟨⟨_, he, rfl⟩, h _ he (Heap.get?_push_of_some _ (Heap.get?_push_size _ B.free)) (by rw [Heap.size_push, hz]) fun b o x => Heap.get?_push_of_some _ (Heap.get?_push_of_some _ x)⟩
/-- the tuple at a, each item in a new pair -/
def IteT (K : PySem.W.Frag) (a : Addr) : It :=
  ⟨fun i H => ∃ (xs : List V) (x : V), SqT K H a xs ∧ xs[i]? = some x, fun i H v H' => ∃ T x, v = .ref T ∧ H T = none ∧ H' = upd H T (.tup [.int (i : Nat), x]) ∧ ∀ xs, SqT K H a xs → xs[i]? = some x, fun i H => ∃ xs : List V, SqT K H a xs ∧ xs.length = i⟩
theorem turn_enumT {P : Program} {w : World} {K : PySem.W.Frag} {elts : List Expr} {kk : Nat} {tpos : Pos} (a e it : Addr) :
    Turn P w K (.Tuple elts kk tpos) (IteT K a) [e, it] e (fun i h => (∃ old, IsEnum h e it ((i : Nat) : Int) old) ∧ h.IsTupleIter it a i ∧ e ≠ it ∧ a ≠ it ∧ a ≠ e) where
  mem := by simp
  obj := fun i h st b hb => by
    obtain ⟨⟨old, he⟩, ⟨o, ho, hc, hd⟩, _⟩ := st
    have e' : b = e ∨ b = it := by simpa using hb
    rcases e' with z | z
    · rw [z]; exact ⟨_, he, fun v q => nomatch q⟩
    · rw [z]; exact ⟨o, ho, fun v q => by rw [hd] at q; cases q⟩
  keep := fun i h h' st k => let ⟨⟨old, he⟩, hi, hne⟩ := st; ⟨⟨old, k e (by simp) _ he⟩, hi.at fun o q => k it (by simp) o q, hne⟩
  item := by
    intro X hP hw hK hc i pins s σ H E I hf st hg
    subst hP hw hK
    obtain ⟨⟨old, he⟩, hit, hne, hai, hae⟩ := st
    obtain ⟨xs, x, hq, hx⟩ := hg
    obtain ⟨its, rv, p, hz⟩ := I.tuple hq
    have hi : i < its.length := by rw [← rv.length]; exact (List.getElem?_eq_some_iff.mp hx).1
    have hel : e < s.heap.objs.size := Heap.lt_size he
    have hil : it < s.heap.objs.size := by obtain ⟨_, q, _⟩ := hit; exact Heap.lt_size q
    have D : Draws X.prog X.w X.A.in1 it [it, a] its.toArray.size (fun i v => its.toArray[i]? = some v) (fun i h => h.IsTupleIter it a i ∧ h.IsTuple a its.toArray) := Draws.tuple (A := X.A.in1) (show X.A.in1.handled = none from I.ok.hd hc) it a hai its.toArray
    refine wpAny_pyNext_enum_itemC D he ⟨hit, p⟩ (by simpa using hi) hne (fun hm => ?_) fun u h' tk hu ho hst' hT hsz hk => ?_
    · rcases List.mem_cons.mp hm with z | hm
      · exact hne z
      · rcases List.mem_cons.mp hm with z | hm
        · exact hae z.symm
        · cases hm
    obtain ⟨u', hu', ru⟩ := rv.get hx
    have hu2 : its[i]? = some u := by simpa using hu
    rw [hu2] at hu'
    cases hu'
    refine ⟨_, rfl, wpAny_letOwnedTupleGo_enum (s := { s with heap := h', toks := tk + 1 }) ho fun h'' he' sb => ?_⟩
    have hT2 : h''.get? s.heap.objs.size = some { cls := .type "tuple", data := .seq #[.int i tk, u] } := (sb.2 _ (Nat.ne_of_gt hel)).trans hT
    have new : ObjOk X.prog X.w (upd H s.heap.objs.size (.tup [.int (i : Nat), x])) h'' s.heap.objs.size (.tup [.int (i : Nat), x]) :=
      ⟨by show 2 ≤ sizeLine; decide, [.int i tk, u], .cons ⟨_, rfl⟩ (.cons ru .nil), ⟨_, hT2, rfl, _, rfl⟩⟩
    have I1 : Inv X pins σ (upd H s.heap.objs.size (.tup [.int (i : Nat), x])) { s with heap := h'', toks := tk + 1 } :=
      I.turnedNew (ch := [e, it]) (fun b ob hb q => (sb.2 b (fun z => hb (by simp [z]))).trans (hk b ob (fun z => hb (by simp [z])) (fun z => hb (by simp [z])) q)) hf (Nat.le_refl _) new
    refine ⟨.ref s.heap.objs.size, _, I1, rfl, ⟨_, x, rfl, I.hok.fresh (Nat.le_refl _), rfl, fun ys hy => by rw [I.tuple_inj hy hq]; exact hx⟩, ⟨⟨u, ?_⟩, hst'.1.at fun o q => (sb.2 it (Ne.symm hne)).trans q, hne, hai, hae⟩, fun b hb => ?_⟩
    · have e1 : ((i + 1 : Nat) : Int) = (i : Int) + 1 := by omega
      rw [e1]; exact he'
    · have hb' : b < s.heap.objs.size := by
        have e' : b = e ∨ b = it := by simpa using hb
        rcases e' with z | z
        · rw [z]; exact hel
        · rw [z]; exact hil
      rw [upd_ne (Nat.ne_of_lt hb')]
      exact (hf b hb).1
  done := by
    intro X hP hw hK hc i pins s σ H E I hf st hg
    subst hP hw hK
    obtain ⟨⟨old, he⟩, hit, hne, hai, hae⟩ := st
    obtain ⟨xs, hq, hx⟩ := hg
    obtain ⟨its, rv, p, hz⟩ := I.tuple hq
    obtain ⟨f0, f1, f2, f3, f4, f5⟩ := hf it (by simp)
    have hl := rv.length
    have D : Draws X.prog X.w X.A.in1 it [it, a] its.toArray.size (fun i v => its.toArray[i]? = some v) (fun i h => h.IsTupleIter it a i ∧ h.IsTuple a its.toArray) := Draws.tuple (A := X.A.in1) (show X.A.in1.handled = none from I.ok.hd hc) it a hai its.toArray
    have e0 : its.toArray.size = i := by simp; omega
    refine wpAny_pyNext_enum_endD D he (by rw [e0]; exact ⟨hit, p⟩) fun h' eb => ⟨rfl, I.turned (t' := s.toks) (fun b o hb q => eb b o hb q) f0 f1 f3 f4 f5⟩
  self := fun A i s Q E st h => let ⟨⟨_, he⟩, _⟩ := st; wpAny_pyIter_enum he h
def iEnumQ (K : PySem.W.Frag) (ta : TA) : TI := fun σ H R => ta σ H fun vs H1 => ∃ a xs, vs = [.ref a] ∧ ((SqL K H1 a xs ∧ R (Ite K a) H1) ∨ (SqT K H1 a xs ∧ R (IteT K a) H1))
theorem pi_enumQ {X : Cx} {e : Expr} {ta : TA} {p pos tpos : Pos} {elts : List Expr} {kk : Nat} (hg : Gl X "enumerate") (hm : X.mg "enumerate" = none) (ha : PA X [e] ta) (hs : starEach [e] X.env = [(false, eval e X.env)] := by rfl) :
    PI X (.Tuple elts kk tpos) (.Call (.Name "enumerate" p) [e] [] pos) (iEnumQ X.K ta) := by
  refine ⟨fun pins s σ H R I h => ?_⟩
  refine Call_ (ld_blt I hg hm boot_enumerate (PyProof.Rows.callWith_type1 (thn (ha.run pos pins s σ H _ I h) fun us s1 ⟨vs, H1, I1, r1, q1⟩ => ?_) hs rfl))
  obtain ⟨a, xs, ex, hqq⟩ := q1
  subst ex
  cases r1 with
  | cons r rr =>
    cases rr
    cases r
    have fin : ∀ b, b ∈ [s1.heap.objs.size + 1, s1.heap.objs.size] → s1.heap.objs.size ≤ b := fun b hb => by
      have e' : b = s1.heap.objs.size + 1 ∨ b = s1.heap.objs.size := by simpa using hb
      rcases e' with z | z
      · rw [z]; exact Nat.le_add_right _ _
      · rw [z]; exact Nat.le_refl _
    rcases hqq with ⟨hq, q⟩ | ⟨hq, q⟩
    · obtain ⟨its, rv, p', hz⟩ := I1.list hq
      refine call_enumerate_list p'.isList fun h' he hit hsz hk => wpAny_pyIter_enum he ?_
      have I2 : Inv X pins σ H1 { s1 with heap := h' } := I1.kept (t' := s1.toks) hk
      exact ⟨s1.heap.objs.size + 1, [s1.heap.objs.size + 1, s1.heap.objs.size], _, _, H1, rfl, I2, turn_enum a (s1.heap.objs.size + 1) s1.heap.objs.size, ⟨⟨.none, he⟩, hit, Nat.succ_ne_self _⟩, fun b hb => I1.fpOk (fin b hb) (I1.hok.fresh (fin b hb)), q⟩
    · obtain ⟨its, rv, p', hz⟩ := I1.tuple hq
      have hlt : a < s1.heap.objs.size := by obtain ⟨_, q, _⟩ := id p'; exact Heap.lt_size q
      refine call_enum1 (begins_tuple a its.toArray) p' fun h' he hit hsz hk => wpAny_pyIter_enum he ?_
      have I2 : Inv X pins σ H1 { s1 with heap := h' } := I1.kept (t' := s1.toks) hk
      exact ⟨s1.heap.objs.size + 1, [s1.heap.objs.size + 1, s1.heap.objs.size], _, _, H1, rfl, I2, turn_enumT a (s1.heap.objs.size + 1) s1.heap.objs.size,
        ⟨⟨.none, he⟩, ⟨_, hit, rfl, rfl⟩, Nat.succ_ne_self _, Nat.ne_of_lt hlt, Nat.ne_of_lt (Nat.lt_succ_of_lt hlt)⟩, fun b hb => I1.fpOk (fin b hb) (I1.hok.fresh (fin b hb)), q⟩
end Mr

set_option Elab.async false
set_option linter.all false
set_option maxRecDepth 100000
set_option maxHeartbeats 2000000
/-! Mir: worlds (frozen part G, owned part O), what data a value stands for (R), steps and loops over the readings of HandS. -/
namespace Mr
open PySem PySem.Spec PyProof.Rows L2

/-! ### worlds -/
def Ext (G H : Hp) : Prop := ∀ a o, G a = some o → H a = some o
theorem Ext.refl (H : Hp) : Ext H H := fun _ _ h => h
theorem Ext.trans {H H1 H2 : Hp} (a : Ext H H1) (b : Ext H1 H2) : Ext H H2 := fun x o h => b x o (a x o h)
abbrev Own := List (Addr × HO)
structure Sub (G : Hp) (O : Own) (H : Hp) : Prop where
  ext : Ext G H
  own : ∀ p ∈ O, H p.1 = some p.2 ∧ G p.1 = none
  nd : (O.map (·.1)).Nodup
section
variable {G G' H H' : Hp} {O O' : Own} {a b p : Addr} {o o' : HO}
theorem Sub.gnone (S : Sub G O H) (hp : H p = none) : G p = none := by
  cases h : G p with
  | none => rfl
  | some u => rw [S.ext p u h] at hp; cases hp
theorem Sub.junk (S : Sub G O H) (hp : H p = none) : Sub G O (upd H p o) := by
  refine ⟨fun x u h => ?_, fun q hq => ?_, S.nd⟩
  · rw [upd_ne (ne_of_none (S.ext x u h) hp)]; exact S.ext x u h
  · obtain ⟨h1, h2⟩ := S.own q hq
    exact ⟨by rw [upd_ne (ne_of_none h1 hp)]; exact h1, h2⟩
theorem Sub.extNew (S : Sub G O H) (hp : H p = none) (o : HO) : Ext G (upd G p o) := fun x u h => by
  rw [upd_ne (ne_of_none h (S.gnone hp))]; exact h
theorem Sub.new (S : Sub G O H) (hp : H p = none) : Sub (upd G p o) O (upd H p o) := by
  refine ⟨fun x u h => ?_, fun q hq => ?_, S.nd⟩
  · by_cases e : x = p
    · subst e; rw [upd_same] at h ⊢; exact h
    · rw [upd_ne e] at h ⊢; exact S.ext x u h
  · obtain ⟨h1, h2⟩ := S.own q hq
    have e := ne_of_none h1 hp
    exact ⟨by rw [upd_ne e]; exact h1, by rw [upd_ne e]; exact h2⟩
theorem Sub.newOwn (S : Sub G O H) (hp : H p = none) : Sub G ((p, o) :: O) (upd H p o) := by
  refine ⟨(S.junk hp).ext, fun q hq => ?_, ?_⟩
  · rcases List.mem_cons.mp hq with e | hq
    · subst e; exact ⟨upd_same, S.gnone hp⟩
    · exact (S.junk hp).own q hq
  · refine List.nodup_cons.mpr ⟨fun hm => ?_, S.nd⟩
    obtain ⟨q, hq, e⟩ := List.mem_map.mp hm
    exact ne_of_none (S.own q hq).1 hp e
theorem Sub.head (S : Sub G ((a, o) :: O) H) : H a = some o := (S.own (a, o) (List.mem_cons_self ..)).1
theorem Sub.ghead (S : Sub G ((a, o) :: O) H) : G a = none := (S.own (a, o) (List.mem_cons_self ..)).2
theorem Sub.tail (S : Sub G ((a, o) :: O) H) : Sub G O H :=
  ⟨S.ext, fun q hq => S.own q (List.mem_cons_of_mem _ hq), (List.nodup_cons.mp S.nd).2⟩
theorem Sub.head_ne (S : Sub G ((a, o) :: O) H) : ∀ q ∈ O, q.1 ≠ a := fun q hq e =>
  (List.nodup_cons.mp S.nd).1 (List.mem_map.mpr ⟨q, hq, e⟩)
/-- the first owned object is written -/
theorem Sub.wr (S : Sub G ((a, o) :: O) H) : Sub G ((a, o') :: O) (upd H a o') := by
  refine ⟨fun x u h => ?_, fun q hq => ?_, S.nd⟩
  · have e : x ≠ a := ne_of_none h S.ghead
    rw [upd_ne e]; exact S.ext x u h
  · rcases List.mem_cons.mp hq with e | hq
    · subst e; exact ⟨upd_same, S.ghead⟩
    · have e := S.head_ne q hq
      exact ⟨by rw [upd_ne e]; exact (S.tail.own q hq).1, (S.tail.own q hq).2⟩
/-- the first owned object is frozen -/
theorem Sub.frz (S : Sub G ((a, o) :: O) H) : Sub (upd G a o) O H := by
  refine ⟨fun x u h => ?_, fun q hq => ?_, S.tail.nd⟩
  · by_cases e : x = a
    · subst e; rw [upd_same] at h; cases h; exact S.head
    · rw [upd_ne e] at h; exact S.ext x u h
  · rw [upd_ne (S.head_ne q hq)]; exact S.tail.own q hq
theorem Sub.extFrz (S : Sub G ((a, o) :: O) H) : Ext G (upd G a o) := fun x u h => by
  rw [upd_ne (ne_of_none h S.ghead)]; exact h
theorem Sub.perm (S : Sub G O H) (h : O.Perm O') : Sub G O' H :=
  ⟨S.ext, fun q hq => S.own q (h.mem_iff.mpr hq), (h.map _).nodup_iff.mp S.nd⟩
theorem perm_erase {α : Type} : ∀ (l : List α) (i : Nat) (q : α), l[i]? = some q → l.Perm (q :: l.eraseIdx i)
  | [], i, q, h => by simp at h
  | x :: l, 0, q, h => by simp at h; subst h; exact List.Perm.refl _
  | x :: l, i + 1, q, h => by
    have ih := perm_erase l i q (by simpa using h)
    exact (List.Perm.cons x ih).trans (List.Perm.swap q x _)
/-- the i-th owned object to the front -/
theorem Sub.front (S : Sub G O H) (i : Nat) {q : Addr × HO} {O' : Own} (h : O[i]? = some q) (h' : O.eraseIdx i = O') : Sub G (q :: O') H := by
  subst h'
  exact S.perm (perm_erase O i q h)
theorem Sub.of (H : Hp) : Sub H [] H := ⟨Ext.refl H, fun q h => (nomatch h), List.nodup_nil⟩
end

/-! ### what a value stands for -/
structure R (α : Type) where
  rel : Hp → V → α → Prop
  mono : ∀ {G G' : Hp} {v : V} {x : α}, Ext G G' → rel G v x → rel G' v x
theorem R.up {α : Type} {r : R α} {G G' : Hp} {v : V} {x : α} (e : Ext G G') (h : r.rel G v x) : r.rel G' v x := r.mono e h
def rSc {α : Type} (f : α → V) : R α := ⟨fun _ v x => v = f x, fun _ h => h⟩
abbrev rInt : R Int := rSc V.int
abbrev rBool : R Bool := rSc V.bl
abbrev rStr : R Str := rSc V.str
abbrev rNon : R Unit := rSc fun _ => V.non
def Al {α : Type} (r : R α) (G : Hp) : List V → List α → Prop
  | [], [] => True
  | v :: vs, x :: xs => r.rel G v x ∧ Al r G vs xs
  | _, _ => False
section
variable {α β γ : Type} {r : R α} {G G' H : Hp} {K : PySem.W.Frag} {v w : V} {vs : List V} {x : α} {xs : List α} {a : Addr}
theorem Al.nil : Al r G [] [] := True.intro
theorem Al.up (e : Ext G G') : ∀ {vs : List V} {xs : List α}, Al r G vs xs → Al r G' vs xs
  | [], [], _ => True.intro
  | _ :: _, _ :: _, h => ⟨r.mono e h.1, Al.up e h.2⟩
  | [], _ :: _, h => h.elim
  | _ :: _, [], h => h.elim
theorem Al.len : ∀ {vs : List V} {xs : List α}, Al r G vs xs → vs.length = xs.length
  | [], [], _ => rfl
  | _ :: _, _ :: _, h => congrArg Nat.succ (Al.len h.2)
  | [], _ :: _, h => h.elim
  | _ :: _, [], h => h.elim
theorem Al.get : ∀ {vs : List V} {xs : List α} {i : Nat} {x : α}, Al r G vs xs → xs[i]? = some x → ∃ v, vs[i]? = some v ∧ r.rel G v x
  | [], [], i, x, _, e => by simp at e
  | v :: vs, y :: xs, 0, x, h, e => by simp at e; subst e; exact ⟨v, rfl, h.1⟩
  | v :: vs, y :: xs, i + 1, x, h, e => by
    obtain ⟨w, h1, h2⟩ := Al.get (i := i) h.2 (by simpa using e)
    exact ⟨w, by simpa using h1, h2⟩
  | [], _ :: _, _, _, h, _ => h.elim
  | _ :: _, [], _, _, h, _ => h.elim
theorem Al.getV : ∀ {vs : List V} {xs : List α} {i : Nat} {v : V}, Al r G vs xs → vs[i]? = some v → ∃ x, xs[i]? = some x ∧ r.rel G v x
  | [], [], i, v, _, e => by simp at e
  | v :: vs, y :: xs, 0, w, h, e => by simp at e; subst e; exact ⟨y, rfl, h.1⟩
  | v :: vs, y :: xs, i + 1, w, h, e => by
    obtain ⟨z, h1, h2⟩ := Al.getV (i := i) h.2 (by simpa using e)
    exact ⟨z, by simpa using h1, h2⟩
  | [], _ :: _, _, _, h, _ => h.elim
  | _ :: _, [], _, _, h, _ => h.elim
theorem Al.app : ∀ {vs ws : List V} {xs ys : List α}, Al r G vs xs → Al r G ws ys → Al r G (vs ++ ws) (xs ++ ys)
  | [], _, [], _, _, h => h
  | _ :: _, _, _ :: _, _, h, h' => ⟨h.1, Al.app h.2 h'⟩
  | [], _, _ :: _, _, h, _ => h.elim
  | _ :: _, _, [], _, h, _ => h.elim
theorem Al.set : ∀ {vs : List V} {xs : List α} (i : Nat), Al r G vs xs → r.rel G v x → Al r G (vs.set i v) (xs.set i x)
  | [], [], _, _, _ => True.intro
  | _ :: _, _ :: _, 0, h, h' => ⟨h', h.2⟩
  | _ :: _, _ :: _, i + 1, h, h' => ⟨h.1, Al.set i h.2 h'⟩
  | [], _ :: _, _, h, _ => h.elim
  | _ :: _, [], _, h, _ => h.elim
theorem Al.take : ∀ {vs : List V} {xs : List α} (n : Nat), Al r G vs xs → Al r G (vs.take n) (xs.take n)
  | _, _, 0, _ => True.intro
  | [], [], _ + 1, _ => True.intro
  | _ :: _, _ :: _, n + 1, h => ⟨h.1, Al.take n h.2⟩
  | [], _ :: _, _ + 1, h => h.elim
  | _ :: _, [], _ + 1, h => h.elim
theorem Al.drop : ∀ {vs : List V} {xs : List α} (n : Nat), Al r G vs xs → Al r G (vs.drop n) (xs.drop n)
  | _, _, 0, h => h
  | [], [], _ + 1, _ => True.intro
  | _ :: _, _ :: _, n + 1, h => Al.drop n h.2
  | [], _ :: _, _ + 1, h => h.elim
  | _ :: _, [], _ + 1, h => h.elim
theorem Al.sc {f : α → V} : ∀ {vs : List V} {xs : List α}, Al (rSc f) G vs xs → vs = xs.map f
  | [], [], _ => rfl
  | _ :: _, _ :: _, h => by rw [h.1, Al.sc h.2]; rfl
  | [], _ :: _, h => h.elim
  | _ :: _, [], h => h.elim
theorem Al.ofSc {f : α → V} : ∀ {xs : List α}, Al (rSc f) G (xs.map f) xs
  | [] => True.intro
  | _ :: _ => ⟨rfl, Al.ofSc⟩
end
theorem sqL_up {K : PySem.W.Frag} {G G' : Hp} {a : Addr} {xs : List V} (e : Ext G G') (h : SqL K G a xs) : SqL K G' a xs := by
  rcases h with (h | ⟨o, h⟩) | h
  · exact .inl (.inl (e _ _ h))
  · exact .inl (.inr ⟨o, e _ _ h⟩)
  · exact .inr h
theorem sqT_up {K : PySem.W.Frag} {G G' : Hp} {a : Addr} {xs : List V} (e : Ext G G') (h : SqT K G a xs) : SqT K G' a xs := by
  rcases h with (h | ⟨o, h⟩) | h
  · exact .inl (.inl (e _ _ h))
  · exact .inl (.inr ⟨o, e _ _ h⟩)
  · exact .inr h
section
variable (K : PySem.W.Frag) {α β γ δ : Type}
/-- a list; a tuple of any length; either -/
def rL (r : R α) : R (List α) := ⟨fun G v xs => ∃ p vs, v = .ref p ∧ SqL K G p vs ∧ Al r G vs xs, fun e ⟨p, vs, h1, h2, h3⟩ => ⟨p, vs, h1, sqL_up e h2, h3.up e⟩⟩
def rT (r : R α) : R (List α) := ⟨fun G v xs => ∃ p vs, v = .ref p ∧ SqT K G p vs ∧ Al r G vs xs, fun e ⟨p, vs, h1, h2, h3⟩ => ⟨p, vs, h1, sqT_up e h2, h3.up e⟩⟩
def rQ (r : R α) : R (List α) := ⟨fun G v xs => ∃ p vs, v = .ref p ∧ (SqL K G p vs ∨ SqT K G p vs) ∧ Al r G vs xs, fun e ⟨p, vs, h1, h2, h3⟩ => ⟨p, vs, h1, h2.imp (sqL_up e) (sqT_up e), h3.up e⟩⟩
/-- tuples of two, three, four -/
def rP (r : R α) (q : R β) : R (α × β) := ⟨fun G v x => ∃ p a b, v = .ref p ∧ SqT K G p [a, b] ∧ r.rel G a x.1 ∧ q.rel G b x.2, fun e ⟨p, a, b, h1, h2, h3, h4⟩ => ⟨p, a, b, h1, sqT_up e h2, r.mono e h3, q.mono e h4⟩⟩
def rP3 (r : R α) (q : R β) (t : R γ) : R (α × β × γ) := ⟨fun G v x => ∃ p a b c, v = .ref p ∧ SqT K G p [a, b, c] ∧ r.rel G a x.1 ∧ q.rel G b x.2.1 ∧ t.rel G c x.2.2,
  fun e ⟨p, a, b, c, h1, h2, h3, h4, h5⟩ => ⟨p, a, b, c, h1, sqT_up e h2, r.mono e h3, q.mono e h4, t.mono e h5⟩⟩
def rP4 (r : R α) (q : R β) (t : R γ) (u : R δ) : R (α × β × γ × δ) := ⟨fun G v x => ∃ p a b c d, v = .ref p ∧ SqT K G p [a, b, c, d] ∧ r.rel G a x.1 ∧ q.rel G b x.2.1 ∧ t.rel G c x.2.2.1 ∧ u.rel G d x.2.2.2,
  fun e ⟨p, a, b, c, d, h1, h2, h3, h4, h5, h6⟩ => ⟨p, a, b, c, d, h1, sqT_up e h2, r.mono e h3, q.mono e h4, t.mono e h5, u.mono e h6⟩⟩
end

/-! ### rules with a cut, ints and bools compared -/
def tCutE (t : TE) : TE := fun σ H Q => ∃ J : VK, t σ H J ∧ ∀ v H', J v H' → Q v H'
def tCutT (t : TT) : TT := fun σ H Q => ∃ J : Bool → Hp → Prop, t σ H J ∧ ∀ b H', J b H' → Q b H'
def tCutS (t : TS) : TS := fun D σ H => ∃ J : L2.St → Hp → Prop, t { D with nx := J } σ H ∧ ∀ σ' H', J σ' H' → D.nx σ' H'
section
variable {X : Cx} {e : Expr} {st : Stmt} {te : TE} {tt : TT} {ts : TS}
theorem pe_cut (h : PE X e te) : PE X e (tCutE te) := by
  refine ⟨fun pins s σ H Q I hq => ?_⟩
  obtain ⟨J, h1, h2⟩ := hq
  exact thn (h.run pins s σ H J I h1) fun v s1 ⟨x, H1, I1, r1, q1⟩ => ⟨x, H1, I1, r1, h2 _ _ q1⟩
theorem pt_cut (h : PT X e tt) : PT X e (tCutT tt) := by
  refine ⟨fun pins s σ H Q I hq => ?_⟩
  obtain ⟨J, h1, h2⟩ := hq
  exact thn (h.run pins s σ H J I h1) fun b s1 ⟨H1, I1, q1⟩ => ⟨H1, I1, h2 _ _ q1⟩
theorem ps_cut (h : PS X st ts) : PS X st (tCutS ts) := by
  refine ⟨fun pins s σ H D I hq => ?_⟩
  obtain ⟨J, h1, h2⟩ := hq
  refine thn (h.run pins s σ H { D with nx := J } I h1) fun f s1 q => ?_
  cases f with
  | next => obtain ⟨σ', H', I', q⟩ := q; exact ⟨σ', H', I', h2 _ _ q⟩
  | ret v => exact q
  | brk => exact q
  | cont => exact q
theorem op_eqI : OpR X (compareOp .Eq) (rI0 fun i j => .bl (decide (i = j))) := fun pins s σ H x y v u Q I rx ry h => by
  obtain ⟨i, j, rfl, rfl, q⟩ := h
  refine op_eq pins s σ H _ _ v u Q I rx ry ⟨rfl, ?_⟩
  have e : decide (V.int i = V.int j) = decide (i = j) := by
    by_cases h : i = j
    · subst h; simp
    · rw [decide_eq_false h, decide_eq_false (fun z => h (V.int.inj z))]
  rw [e]; exact q
theorem op_neI : OpR X (compareOp .NotEq) (rI0 fun i j => .bl (!decide (i = j))) := fun pins s σ H x y v u Q I rx ry h => by
  obtain ⟨i, j, rfl, rfl, q⟩ := h
  refine op_ne pins s σ H _ _ v u Q I rx ry ⟨rfl, ?_⟩
  have e : decide (V.int i = V.int j) = decide (i = j) := by
    by_cases h : i = j
    · subst h; simp
    · rw [decide_eq_false h, decide_eq_false (fun z => h (V.int.inj z))]
  rw [e]; exact q
def rB0 (g : Bool → Bool → V) : R2 := fun x y H Q => ∃ i j, x = .bl i ∧ y = .bl j ∧ Q (g i j) H
theorem op_eqB : OpR X (compareOp .Eq) (rB0 fun i j => .bl (i == j)) := fun pins s σ H x y v u Q I rx ry h => by
  obtain ⟨i, j, rfl, rfl, q⟩ := h
  refine op_eq pins s σ H _ _ v u Q I rx ry ⟨rfl, ?_⟩
  have e : decide (V.bl i = V.bl j) = (i == j) := by cases i <;> cases j <;> rfl
  rw [e]; exact q
theorem op_neB : OpR X (compareOp .NotEq) (rB0 fun i j => .bl (i != j)) := fun pins s σ H x y v u Q I rx ry h => by
  obtain ⟨i, j, rfl, rfl, q⟩ := h
  refine op_ne pins s σ H _ _ v u Q I rx ry ⟨rfl, ?_⟩
  have e : (!decide (V.bl i = V.bl j)) = (i != j) := by cases i <;> cases j <;> rfl
  rw [e]; exact q
def rS0 (g : Str → Str → V) : R2 := fun x y H Q => ∃ i j, x = .str i ∧ y = .str j ∧ Q (g i j) H
theorem op_eqS : OpR X (compareOp .Eq) (rS0 fun i j => .bl (decide (i = j))) := fun pins s σ H x y v u Q I rx ry h => by
  obtain ⟨i, j, rfl, rfl, q⟩ := h
  refine op_eq pins s σ H _ _ v u Q I rx ry ⟨rfl, ?_⟩
  have e : decide (V.str i = V.str j) = decide (i = j) := by
    by_cases h : i = j
    · subst h; simp
    · rw [decide_eq_false h, decide_eq_false (fun z => h (V.str.inj z))]
  rw [e]; exact q
theorem op_neS : OpR X (compareOp .NotEq) (rS0 fun i j => .bl (!decide (i = j))) := fun pins s σ H x y v u Q I rx ry h => by
  obtain ⟨i, j, rfl, rfl, q⟩ := h
  refine op_ne pins s σ H _ _ v u Q I rx ry ⟨rfl, ?_⟩
  have e : decide (V.str i = V.str j) = decide (i = j) := by
    by_cases h : i = j
    · subst h; simp
    · rw [decide_eq_false h, decide_eq_false (fun z => h (V.str.inj z))]
  rw [e]; exact q
end

/-! ### relations by name -/
def rLenM (K : PySem.W.Frag) : List V → Hp → VK → Prop := fun xs H Q => ∃ p ys, xs = [.ref p] ∧ (SqL K H p ys ∨ SqT K H p ys) ∧ Q (.int ys.length) H
def rTupOf (K : PySem.W.Frag) : List V → Hp → VK → Prop := fun xs H Q => ∃ p ys, xs = [.ref p] ∧ ((SqL K H p ys ∧ ∀ l, H l = none → Q (.ref l) (upd H l (.tup ys))) ∨ (SqT K H p ys ∧ Q (.ref p) H))
def rListOf (K : PySem.W.Frag) : List V → Hp → VK → Prop := fun xs H Q => ∃ p ys, xs = [.ref p] ∧ (SqL K H p ys ∨ SqT K H p ys) ∧ ∀ l, H l = none → Q (.ref l) (upd H l (.lst ys))
section
variable {X : Cx}
theorem call_lenM : CallR X (.builtin "len") (rLenM X.K) := call_len_seq
theorem call_tupOf : CallR X (.type "tuple") (rTupOf X.K) := call_tuple_of
theorem call_listOf : CallR X (.type "list") (rListOf X.K) := call_list_of
end
def mkTup (xs : List V) (H : Hp) (Q : VK) : Prop := xs.length ≤ sizeLine ∧ ∀ p, H p = none → Q (.ref p) (upd H p (.tup xs))
def mkLst (xs : List V) (H : Hp) (Q : VK) : Prop := xs.length ≤ sizeLine ∧ ∀ p, H p = none → Q (.ref p) (upd H p (.lst xs))
def LpW (g : TG) (tb : TS) (D : Ends) (σ : L2.St) (J : It) (H : Hp) : Prop := ∃ W : Nat → Nat → L2.St → Hp → Prop, (∃ m, W 0 m σ H) ∧ ∀ i m σ H, W i m σ H →
  (J.stop i H ∧ D.nx σ H) ∨ (J.go i H ∧ ∃ N : L2.St → Hp → Prop, (∀ σ' H', N σ' H' → ∃ m', m' < m ∧ W (i + 1) m' σ' H') ∧ ∀ x H', J.yld i H x H' → g x σ H' fun σ2 H2 => tb { D with nx := N, ct := N, bk := D.nx } σ2 H2)
def itL (K : PySem.W.Frag) (x : V) (H : Hp) (RI : It → Hp → Prop) : Prop := ∃ a, x = .ref a ∧ (∃ xs, SqL K H a xs) ∧ RI (Itl K a) H
def itT (K : PySem.W.Frag) (x : V) (H : Hp) (RI : It → Hp → Prop) : Prop := ∃ a, x = .ref a ∧ (∃ xs, SqT K H a xs) ∧ RI (Itt K a) H
def itR (vs : List V) (H : Hp) (RI : It → Hp → Prop) : Prop := ∃ j : Int, vs = [.int j] ∧ -(2 ^ 62) ≤ j ∧ j < 2 ^ 62 ∧ RI (Itr 0 j.toNat) H
def itR2 (vs : List V) (H : Hp) (RI : It → Hp → Prop) : Prop := ∃ i j : Int, vs = [.int i, .int j] ∧ (-(2 ^ 62) ≤ i ∧ i < 2 ^ 62 ∧ -(2 ^ 62) ≤ j ∧ j < 2 ^ 62) ∧ RI (Itr i (j - i).toNat) H
def itE (K : PySem.W.Frag) (vs : List V) (H : Hp) (RI : It → Hp → Prop) : Prop := ∃ a xs, vs = [.ref a] ∧ ((SqL K H a xs ∧ RI (Ite K a) H) ∨ (SqT K H a xs ∧ RI (IteT K a) H))

/-! ### peeling a reading -/
section
variable {σ : L2.St} {H : Hp} {Q : VK} {QB : Bool → Hp → Prop} {QA : List V → Hp → Prop} {QO : Option Int → Hp → Prop} {v : V} {i j l : Nat} {ta tb te : TE} {tt tu : TT} {ts tr : TS} {t : TA} {D : Ends} {K : PySem.W.Frag}
theorem gV (e : σ[i]? = some (some v)) (h : Q v H) : tVar i σ H Q := ⟨v, e, h⟩
theorem gC (h : Q v H) : tC v σ H Q := h
theorem gOp {r : R2} (h : ta σ H fun x H1 => tb σ H1 fun y H2 => r x y H2 Q) : tOp r ta tb σ H Q := h
theorem gUn {r : V → Hp → VK → Prop} (h : ta σ H fun x H1 => r x H1 Q) : tUn r ta σ H Q := h
theorem gTest (h : te σ H fun x H' => ∃ k, x = .bl k ∧ QB k H') : tTest te σ H QB := h
theorem gB (h : te σ H fun x H' => ∃ k, x = .bl k ∧ QB k H') : tB te σ H QB := h
theorem gNot (h : tt σ H fun c H1 => QB (!c) H1) : tNot tt σ H QB := h
theorem gAnd (h : tt σ H fun c H1 => if c = true then tu σ H1 QB else QB false H1) : tAnd tt tu σ H QB := h
theorem gOr (h : tt σ H fun c H1 => if c = true then QB true H1 else tu σ H1 QB) : tOr tt tu σ H QB := h
theorem gAndV (h : ta σ H fun x H1 => ∃ c, x = .bl c ∧ if c = true then tb σ H1 Q else Q (.bl false) H1) : tAndV ta tb σ H Q := h
theorem gOrV (h : ta σ H fun x H1 => ∃ c, x = .bl c ∧ if c = true then Q (.bl true) H1 else tb σ H1 Q) : tOrV ta tb σ H Q := h
theorem gNotV (h : ta σ H fun x H1 => ∃ c, x = .bl c ∧ Q (.bl (!c)) H1) : tNotV ta σ H Q := h
theorem gIf (h : tt σ H fun c H1 => if c = true then ta σ H1 Q else tb σ H1 Q) : tIf tt ta tb σ H Q := h
theorem gCons' (h : ta σ H fun x H1 => t σ H1 fun xs H2 => QA (x :: xs) H2) : tCons ta t σ H QA := h
theorem gNil' (h : QA [] H) : tNil σ H QA := h
theorem gCB {r : List V → Hp → VK → Prop} (h : t σ H fun vs H1 => r vs H1 Q) : tCB r t σ H Q := h
theorem gCall {sp : Sp} {dvs : List V} {E : XK} (h : t σ H fun vs H1 => sp (vs ++ dvs) H1 Q E) : tCall sp dvs E t σ H Q := h
theorem gTup' (h : t σ H fun xs H1 => mkTup xs H1 Q) : tTup t σ H Q := h
theorem gLst (h : t σ H fun xs H1 => mkLst xs H1 Q) : tLst t σ H Q := h
theorem gSl {r : V → Option Int → Option Int → Hp → VK → Prop} {to tp : TO} (h : te σ H fun x H1 => to σ H1 fun l H2 => tp σ H2 fun u H3 => r x l u H3 Q) : tSl r te to tp σ H Q := h
theorem gPart (h : te σ H fun x H1 => ∃ i, x = .int i ∧ QO (some i) H1) : tPart te σ H QO := h
theorem gNoPart (h : QO none H) : tNoPart σ H QO := h
theorem gBM {T : String} {r : V → List V → Hp → VK → Prop} (h : te σ H fun x H1 => tyV K T x H1 ∧ t σ H1 fun xs H2 => r x xs H2 Q) : tBM K T r te t σ H Q := h
theorem gSeq (h : ts { D with nx := tr D } σ H) : tSeq ts tr D σ H := h
theorem gNext (h : D.nx σ H) : tNext D σ H := h
theorem gAsgN (h : te σ H fun x H1 => D.nx (σ.set i (some x)) H1) : tAsg te (gName i) D σ H := h
theorem gAsg {g : TG} (h : te σ H fun x H1 => g x σ H1 D.nx) : tAsg te g D σ H := h
theorem gSub' {ts' : TSet} {QS : L2.St → Hp → Prop} (h : ta σ H fun o H1 => tb σ H1 fun i H2 => ts' o i v H2 fun H3 => QS σ H3) : gSub ta tb ts' v σ H QS := h
theorem gPar (h : t σ H fun vs H1 => ∃ v w, vs = [v, w] ∧ D.nx ((σ.set i (some v)).set j (some w)) H1) : tPar i j t D σ H := h
theorem gPar3 (h : t σ H fun vs H1 => ∃ u v w, vs = [u, v, w] ∧ D.nx (((σ.set i (some u)).set j (some v)).set l (some w)) H1) : tPar3 i j l t D σ H := h
theorem gAug {ti : TIp} {x : V} (e : σ[i]? = some (some x)) (h : te σ H fun y H1 => ti x y H1 fun z H2 => D.nx (σ.set i (some z)) H2) : tAug i te ti D σ H := ⟨x, e, h⟩
theorem gDrop (h : te σ H fun _ H1 => D.nx σ H1) : tDrop te D σ H := h
theorem gRet (h : te σ H D.rt) : tRet te D σ H := h
theorem gIfS (h : tt σ H fun b H1 => if b = true then ts D σ H1 else tr D σ H1) : tIfS tt ts tr D σ H := h
theorem gFor {wi : TI} {g : TG} (h : wi σ H (LpW g ts D σ)) : tFor wi g ts D σ H := h
variable {RI : It → Hp → Prop}
theorem gIL (h : te σ H fun x H1 => itL K x H1 RI) : iList K te σ H RI := h
theorem gIT (h : te σ H fun x H1 => itT K x H1 RI) : iTup K te σ H RI := h
theorem gIR (h : t σ H fun vs H1 => itR vs H1 RI) : iRng1 t σ H RI := h
theorem gIR2 (h : t σ H fun vs H1 => itR2 vs H1 RI) : iRng2 t σ H RI := h
theorem gIE (h : t σ H fun vs H1 => itE K vs H1 RI) : iEnumQ K t σ H RI := h
theorem gCE (J : VK) (h : te σ H J) (h2 : ∀ v H', J v H' → Q v H') : tCutE te σ H Q := ⟨J, h, h2⟩
theorem gCT (J : Bool → Hp → Prop) (h : tt σ H J) (h2 : ∀ v H', J v H' → QB v H') : tCutT tt σ H QB := ⟨J, h, h2⟩
theorem gCS (J : L2.St → Hp → Prop) (h : ts { D with nx := J } σ H) (h2 : ∀ σ' H', J σ' H' → D.nx σ' H') : tCutS ts D σ H := ⟨J, h, h2⟩
theorem gS_AsgN (h : te σ H fun x H1 => tr D (σ.set i (some x)) H1) : tSeq (tAsg te (gName i)) tr D σ H := h
theorem gS_Asg {g : TG} (h : te σ H fun x H1 => g x σ H1 (tr D)) : tSeq (tAsg te g) tr D σ H := h
theorem gS_Par (h : t σ H fun vs H1 => ∃ v w, vs = [v, w] ∧ tr D ((σ.set i (some v)).set j (some w)) H1) : tSeq (tPar i j t) tr D σ H := h
theorem gS_Par3 (h : t σ H fun vs H1 => ∃ u v w, vs = [u, v, w] ∧ tr D (((σ.set i (some u)).set j (some v)).set l (some w)) H1) : tSeq (tPar3 i j l t) tr D σ H := h
theorem gS_Aug {ti : TIp} {x : V} (e : σ[i]? = some (some x)) (h : te σ H fun y H1 => ti x y H1 fun z H2 => tr D (σ.set i (some z)) H2) : tSeq (tAug i te ti) tr D σ H := ⟨x, e, h⟩
theorem gS_Drop (h : te σ H fun _ H1 => tr D σ H1) : tSeq (tDrop te) tr D σ H := h
theorem gS_IfS {tw : TS} (h : tt σ H fun b H1 => if b = true then ts { D with nx := tr D } σ H1 else tw { D with nx := tr D } σ H1) : tSeq (tIfS tt ts tw) tr D σ H := h
theorem gS_CS (J : L2.St → Hp → Prop) (h : ts { D with nx := J } σ H) (h2 : ∀ σ' H', J σ' H' → tr D σ' H') : tSeq (tCutS ts) tr D σ H := ⟨J, h, h2⟩
theorem gE {f bk ct : L2.St → Hp → Prop} {rt : VK} (h : f σ H) : Ends.nx ⟨f, rt, bk, ct⟩ σ H := h
theorem ne_false {b : Bool} (h : ¬ b = true) : b = false := by
  cases b with
  | true => exact (h rfl).elim
  | false => rfl
end

/-! ### sizes -/
theorem sz {n : Nat} (h : n ≤ 100000) : n ≤ sizeLine := Nat.le_trans h (by decide)
theorem szl {n : Nat} (h : n < 100000) : n < sizeLine := Nat.lt_of_lt_of_le h (by decide)
theorem sz0 : 0 ≤ sizeLine := sz (by decide)
theorem sz1 : 1 ≤ sizeLine := sz (by decide)
theorem sz2 : 2 ≤ sizeLine := sz (by decide)
theorem sz3 : 3 ≤ sizeLine := sz (by decide)
theorem sz4 : 4 ≤ sizeLine := sz (by decide)
theorem sz5 : 5 ≤ sizeLine := sz (by decide)
theorem sz6 : 6 ≤ sizeLine := sz (by decide)

/-! ### steps -/
theorem ix_eq (n : Nat) (i : Int) : ixM n i = ixN n i := rfl
theorem get_eq {α : Type} (xs : List α) (i : Int) : getM xs i = atI xs i := rfl
theorem cut_eq (xs : List V) (lo hi : Option Int) : cutV xs lo hi = cutM xs lo hi := by
  have e : ∀ n d o, HT.sIx n d o = slIx n d o := fun n d o => by cases o <;> rfl
  unfold cutV cutM
  rw [e, e]
section
variable {α β γ δ : Type} {r : R α} {G G' H : Hp} {O : Own} {K : PySem.W.Frag} {v w : V} {vs : List V} {x : α} {xs : List α} {a : Addr} {Q : VK}
theorem Al.getI {i : Int} (h : Al r G vs xs) (e : getM xs i = some x) : ∃ v, atI vs i = some v ∧ r.rel G v x := by
  unfold getM at e
  rw [← h.len] at e
  obtain ⟨j, e1, e2⟩ := bindS e
  obtain ⟨w, h1, h2⟩ := h.get e2
  refine ⟨w, ?_, h2⟩
  show (ixN vs.length i).bind _ = some w
  rw [← ix_eq, e1]
  exact h1
theorem Al.cut {lo hi : Option Int} (h : Al r G vs xs) : Al r G (cutV vs lo hi) (cutM xs lo hi) := by
  rw [cut_eq]
  unfold cutM
  rw [h.len]
  exact (h.drop _).take _
/-- xs[i] of a frozen list, tuple, list or tuple; of an owned list -/
theorem q_ixL {i : Int} (S : Sub G O H) (h : (rL K r).rel G v xs) (e : getM xs i = some x) (q : ∀ w, r.rel G w x → Q w H) : rIxL K v (.int i) H Q := by
  obtain ⟨p, vs, rfl, hs, ha⟩ := h
  obtain ⟨w, h1, h2⟩ := ha.getI e
  exact ⟨p, vs, i, w, rfl, rfl, sqL_up S.ext hs, h1, q w h2⟩
theorem q_ixT {i : Int} (S : Sub G O H) (h : (rT K r).rel G v xs) (e : getM xs i = some x) (q : ∀ w, r.rel G w x → Q w H) : rIxT K v (.int i) H Q := by
  obtain ⟨p, vs, rfl, hs, ha⟩ := h
  obtain ⟨w, h1, h2⟩ := ha.getI e
  exact ⟨p, vs, i, w, rfl, rfl, sqT_up S.ext hs, h1, q w h2⟩
theorem q_ixO {i : Int} (S : Sub G ((a, .lst vs) :: O) H) (h : Al r G vs xs) (e : getM xs i = some x) (q : ∀ w, r.rel G w x → Q w H) : rIxL K (.ref a) (.int i) H Q := by
  obtain ⟨w, h1, h2⟩ := h.getI e
  exact ⟨a, vs, i, w, rfl, rfl, .inl (.inl S.head), h1, q w h2⟩
/-- the places of a tuple of two, three, four -/
theorem q_p0 {s : R β} {y : α × β} (S : Sub G O H) (h : (rP K r s).rel G v y) (q : ∀ w, r.rel G w y.1 → Q w H) : rIxT K v (.int 0) H Q := by
  obtain ⟨p, a, b, rfl, hs, h1, h2⟩ := h
  exact ⟨p, _, 0, a, rfl, rfl, sqT_up S.ext hs, rfl, q a h1⟩
theorem q_p1 {s : R β} {y : α × β} (S : Sub G O H) (h : (rP K r s).rel G v y) (q : ∀ w, s.rel G w y.2 → Q w H) : rIxT K v (.int 1) H Q := by
  obtain ⟨p, a, b, rfl, hs, h1, h2⟩ := h
  exact ⟨p, _, 1, b, rfl, rfl, sqT_up S.ext hs, rfl, q b h2⟩
/-- len -/
theorem q_lenL {y : V} (S : Sub G O H) (h : (rL K r).rel G v xs) (q : Q (.int (xs.length : Int)) H) : rLenM K [v] H Q := by
  obtain ⟨p, vs, rfl, hs, ha⟩ := h
  refine ⟨p, vs, rfl, .inl (sqL_up S.ext hs), ?_⟩
  rw [ha.len]; exact q
theorem q_lenT (S : Sub G O H) (h : (rT K r).rel G v xs) (q : Q (.int (xs.length : Int)) H) : rLenM K [v] H Q := by
  obtain ⟨p, vs, rfl, hs, ha⟩ := h
  refine ⟨p, vs, rfl, .inr (sqT_up S.ext hs), ?_⟩
  rw [ha.len]; exact q
theorem q_lenP {s : R β} {y : α × β} (S : Sub G O H) (h : (rP K r s).rel G v y) (q : Q (.int 2) H) : rLenM K [v] H Q := by
  obtain ⟨p, a, b, rfl, hs, _⟩ := h
  exact ⟨p, [a, b], rfl, .inr (sqT_up S.ext hs), q⟩
theorem q_lenO (S : Sub G ((a, .lst vs) :: O) H) (h : Al r G vs xs) (q : Q (.int (xs.length : Int)) H) : rLenM K [V.ref a] H Q := by
  refine ⟨a, vs, rfl, .inl (.inl (.inl S.head)), ?_⟩
  rw [h.len]; exact q
end
/-! ### further steps -/
section
variable {α β γ δ : Type} {r : R α} {G G' H : Hp} {O : Own} {K : PySem.W.Frag} {v w : V} {vs : List V} {x : α} {xs ys : List α} {a : Addr} {Q : VK}
theorem q_mul {i j k : Int} (h : mulM i j = some k) (q : Q (.int k) H) : rI CMul (fun i j => .int (i * j)) (.int i) (.int j) H Q := by
  obtain ⟨c, e⟩ := mulM_some h
  exact ⟨i, j, rfl, rfl, c, by show Q (.int (i * j)) H; rw [e]; exact q⟩
theorem q_fdiv {i j k : Int} (h : fdivM i j = some k) (q : Q (.int k) H) : rI CDivW (fun i j => .int (i / j)) (.int i) (.int j) H Q := by
  obtain ⟨c, e⟩ := fdivM_some h
  exact ⟨i, j, rfl, rfl, c, by show Q (.int (i / j)) H; rw [e]; exact q⟩
theorem q_mod {i j k : Int} (h : modM i j = some k) (q : Q (.int k) H) : rI (fun _ j => 0 < j) (fun i j => .int (i % j)) (.int i) (.int j) H Q := by
  obtain ⟨c, e⟩ := modM_some h
  exact ⟨i, j, rfl, rfl, c, by show Q (.int (i % j)) H; rw [e]; exact q⟩
/-- xs.append(e), the first owned list -/
theorem q_app (S : Sub G ((a, .lst vs) :: O) H) (h : Al r G vs xs) (hv : r.rel G v x) (e : appM xs x = some ys) (q : ∀ H' w, Sub G ((a, .lst w) :: O) H' → Al r G w ys → Q .non H') : rAppend (.ref a) [v] H Q := by
  obtain ⟨c, e⟩ := appM_some e
  refine ⟨a, vs, v, rfl, rfl, S.head, szl (by rw [h.len]; exact c), q _ _ S.wr ?_⟩
  rw [← e]
  exact h.app ⟨hv, True.intro⟩
/-- xs[i] = e -/
theorem q_setL {i : Int} {Q : Hp → Prop} (S : Sub G ((a, .lst vs) :: O) H) (h : Al r G vs xs) (hv : r.rel G v x) (e : setM xs i x = some ys) (q : ∀ H' ws, Sub G ((a, .lst ws) :: O) H' → Al r G ws ys → Q H') : rSetL (.ref a) (.int i) v H Q := by
  obtain ⟨j, e1, e2⟩ := setM_some e
  rw [← h.len] at e1
  refine ⟨a, vs, i, j, rfl, rfl, S.head, e1, q _ _ S.wr ?_⟩
  rw [← e2]
  exact h.set j hv
/-- slices: a new list (frozen at once) -/
theorem q_slL {lo hi : Option Int} (S : Sub G O H) (h : (rL K r).rel G v xs) (q : ∀ w G' H', Ext G G' → Sub G' O H' → (rL K r).rel G' w (cutM xs lo hi) → Q w H') : rSlL K v lo hi H Q := by
  obtain ⟨p, vs, rfl, hs, ha⟩ := h
  refine ⟨p, vs, rfl, sqL_up S.ext hs, fun t ht => q _ _ _ (S.extNew ht (.lst (cutV vs lo hi))) (S.new ht) ⟨t, _, rfl, .inl (.inl upd_same), ?_⟩⟩
  exact (ha.up (S.extNew ht _)).cut
/-- displays -/
theorem q_tup2 {s : R β} {v w : V} {y : β} (S : Sub G O H) (h1 : r.rel G v x) (h2 : s.rel G w y) (q : ∀ u G' H', Ext G G' → Sub G' O H' → (rP K r s).rel G' u (x, y) → Q u H') :
    mkTup [v, w] H Q :=
  ⟨sz2, fun p hp => q _ _ _ (S.extNew hp _) (S.new hp) ⟨p, v, w, rfl, .inl (.inl upd_same), r.mono (S.extNew hp _) h1, s.mono (S.extNew hp _) h2⟩⟩
theorem q_tup3 {s : R β} {t : R γ} {v w z : V} {y : β} {c : γ} (S : Sub G O H) (h1 : r.rel G v x) (h2 : s.rel G w y) (h3 : t.rel G z c) (q : ∀ u G' H', Ext G G' → Sub G' O H' → (rP3 K r s t).rel G' u (x, y, c) → Q u H') :
    mkTup [v, w, z] H Q :=
  ⟨sz3, fun p hp => q _ _ _ (S.extNew hp _) (S.new hp) ⟨p, v, w, z, rfl, .inl (.inl upd_same), r.mono (S.extNew hp _) h1, s.mono (S.extNew hp _) h2, t.mono (S.extNew hp _) h3⟩⟩
theorem q_tup4 {s : R β} {t : R γ} {u : R δ} {v w z f : V} {y : β} {c : γ} {d : δ} (S : Sub G O H) (h1 : r.rel G v x) (h2 : s.rel G w y) (h3 : t.rel G z c) (h4 : u.rel G f d) (q : ∀ k G' H', Ext G G' → Sub G' O H' → (rP4 K r s t u).rel G' k (x, y, c, d) → Q k H') :
    mkTup [v, w, z, f] H Q :=
  ⟨sz4, fun p hp => q _ _ _ (S.extNew hp _) (S.new hp) ⟨p, v, w, z, f, rfl, .inl (.inl upd_same), r.mono (S.extNew hp _) h1, s.mono (S.extNew hp _) h2, t.mono (S.extNew hp _) h3, u.mono (S.extNew hp _) h4⟩⟩
/-- a list display, owned -/
theorem q_lst (S : Sub G O H) (h : Al r G vs xs) (hz : vs.length ≤ 100000) (q : ∀ p H' w, Sub G ((p, .lst w) :: O) H' → Al r G w xs → Q (.ref p) H') : mkLst vs H Q :=
  ⟨sz hz, fun p hp => q p _ vs (S.newOwn hp) h⟩
/-- tuple(xs) of an owned list, of a list, of a list or tuple -/
theorem q_tupO (S : Sub G ((a, .lst vs) :: O) H) (h : Al r G vs xs) (q : ∀ u G' H', Ext G G' → Sub G' ((a, .lst vs) :: O) H' → (rT K r).rel G' u xs → Q u H') :
    rTupOf K [V.ref a] H Q :=
  ⟨a, vs, rfl, .inl ⟨.inl (.inl S.head), fun l hl => q _ _ _ (S.extNew hl _) (S.new hl) ⟨l, vs, rfl, .inl (.inl upd_same), h.up (S.extNew hl _)⟩⟩⟩
theorem q_tupL (S : Sub G O H) (h : (rL K r).rel G v xs) (q : ∀ u G' H', Ext G G' → Sub G' O H' → (rT K r).rel G' u xs → Q u H') :
    rTupOf K [v] H Q := by
  obtain ⟨p, vs, rfl, hs, ha⟩ := h
  exact ⟨p, vs, rfl, .inl ⟨sqL_up S.ext hs, fun l hl => q _ _ _ (S.extNew hl _) (S.new hl) ⟨l, vs, rfl, .inl (.inl upd_same), ha.up (S.extNew hl _)⟩⟩⟩
theorem q_tupT (S : Sub G O H) (h : (rT K r).rel G v xs) (q : Q v H) :
    rTupOf K [v] H Q := by
  obtain ⟨p, vs, rfl, hs, ha⟩ := h
  exact ⟨p, vs, rfl, .inr ⟨sqT_up S.ext hs, q⟩⟩
/-- list(xs): a new list, frozen or owned -/
theorem q_listQ (S : Sub G O H) (h : (rQ K r).rel G v xs) (q : ∀ u G' H', Ext G G' → Sub G' O H' → (rL K r).rel G' u xs → Q u H') :
    rListOf K [v] H Q := by
  obtain ⟨p, vs, rfl, hs, ha⟩ := h
  exact ⟨p, vs, rfl, hs.imp (sqL_up S.ext) (sqT_up S.ext), fun l hl => q _ _ _ (S.extNew hl _) (S.new hl) ⟨l, vs, rfl, .inl (.inl upd_same), ha.up (S.extNew hl _)⟩⟩
theorem q_listQo (S : Sub G O H) (h : (rQ K r).rel G v xs) (q : ∀ p vs H', Sub G ((p, .lst vs) :: O) H' → Al r G vs xs → Q (.ref p) H') :
    rListOf K [v] H Q := by
  obtain ⟨p, vs, rfl, hs, ha⟩ := h
  exact ⟨p, vs, rfl, hs.imp (sqL_up S.ext) (sqT_up S.ext), fun l hl => q l vs _ (S.newOwn hl) ha⟩
theorem rL_Q (h : (rL K r).rel G v xs) : (rQ K r).rel G v xs := let ⟨p, vs, e, hs, ha⟩ := h; ⟨p, vs, e, .inl hs, ha⟩
theorem rT_Q (h : (rT K r).rel G v xs) : (rQ K r).rel G v xs := let ⟨p, vs, e, hs, ha⟩ := h; ⟨p, vs, e, .inr hs, ha⟩
/-- an owned list, frozen -/
theorem rL_frz (S : Sub G ((a, .lst vs) :: O) H) (h : Al r G vs xs) : (rL K r).rel (upd G a (.lst vs)) (.ref a) xs := ⟨a, vs, rfl, .inl (.inl upd_same), h.up S.extFrz⟩
theorem frz_L (S : Sub G ((a, .lst vs) :: O) H) (h : Al r G vs xs) : ∃ G', Ext G G' ∧ Sub G' O H ∧ (rL K r).rel G' (.ref a) xs := ⟨_, S.extFrz, S.frz, rL_frz S h⟩
/-- an owned list as the heap has it now -/
theorem rL_own (S : Sub G ((a, .lst vs) :: O) H) (h : Al r G vs xs) : (rL K r).rel H (.ref a) xs := ⟨a, vs, rfl, .inl (.inl S.head), h.up S.ext⟩

/-! types, for isinstance -/
theorem ty_L (h : (rL K r).rel H v xs) : TyX K H v (.type "list") := by
  obtain ⟨p, vs, rfl, hs, _⟩ := h
  rcases hs with (hs | ⟨o, hs⟩) | ⟨o, its, n, h1, h2, _⟩
  · exact .base (.lst hs)
  · exact .base (.frz hs)
  · exact .kList h1 h2
theorem ty_sqT {p : Addr} (hs : SqT K H p vs) : TyX K H (.ref p) (.type "tuple") := by
  rcases hs with (hs | ⟨o, hs⟩) | ⟨o, its, n, h1, h2, _⟩
  · exact .base (.tup hs)
  · exact .fTuple hs
  · exact .kTuple h1 h2
theorem ty_T (h : (rT K r).rel H v xs) : TyX K H v (.type "tuple") := by
  obtain ⟨p, vs, rfl, hs, _⟩ := h
  exact ty_sqT hs
theorem ty_P {s : R β} {y : α × β} (h : (rP K r s).rel H v y) : TyX K H v (.type "tuple") := by
  obtain ⟨p, a, b, rfl, hs, _⟩ := h
  exact ty_sqT hs
theorem ty_P3 {s : R β} {t : R γ} {y : α × β × γ} (h : (rP3 K r s t).rel H v y) : TyX K H v (.type "tuple") := by
  obtain ⟨p, a, b, c, rfl, hs, _⟩ := h
  exact ty_sqT hs
theorem ty_I (i : Int) : TyX K H (.int i) (.type "int") := .base (.int i)
theorem ty_B (b : Bool) : TyX K H (.bl b) (.type "bool") := .base (.bl b)
theorem ty_S (b : Str) : TyX K H (.str b) (.type "str") := .base (.str b)
theorem ty_N : TyX K H .non (.type "NoneType") := .base .non
theorem q_isi {t c : String} {b : Bool} (h : TyX K H v (.type t)) (e : kitB t c = some b) (q : Q (.bl b) H) : rIsi K [v, .ty c] H Q := ⟨v, .ty c, .type t, .type c, b, rfl, .ty c, h, kit_ty e, q⟩
end

/-! ### data and == -/
structure RD (K : PySem.W.Frag) (α : Type) [DecidableEq α] where
  r : R α
  enc : α → PyData
  dep : Nat
  ok : α → Bool
  lay : ∀ x, ok x = true → (enc x).canLay0 = true
  dpt : ∀ x, (enc x).depth ≤ dep
  dp : ∀ {H : Hp} {v : V} {x : α}, r.rel H v x → Dp K H v (enc x)
  eqv : ∀ x y, PyData.eqv (enc x) (enc y) = decide (x = y)
section
variable {K : PySem.W.Frag} {α β γ : Type} [DecidableEq α] [DecidableEq β] [DecidableEq γ]
def dInt : RD K Int := ⟨rInt, .int, 1, fun _ => true, fun _ _ => rfl, fun _ => by simp [PyData.depth], fun {H v x} h => by cases (show v = .int x from h); exact .int x, fun x y => rfl⟩
def dBool : RD K Bool := ⟨rBool, .bool, 1, fun _ => true, fun _ _ => rfl, fun _ => by simp [PyData.depth], fun {H v x} h => by cases (show v = .bl x from h); exact .bl x, fun x y => by cases x <;> cases y <;> rfl⟩
def dStr : RD K Str := ⟨rStr, .str, 1, PyData.strOk, fun _ h => h, fun _ => by simp [PyData.depth], fun {H v x} h => by cases (show v = .str x from h); exact .str x, fun x y => by
  show (x == y) = decide (x = y)
  by_cases e : x = y
  · subst e; simp
  · rw [decide_eq_false e]; exact beq_eq_false_iff_ne.mpr e⟩
theorem Al.dps {r : R α} {enc : α → PyData} {H : Hp} (hd : ∀ {v : V} {x : α}, r.rel H v x → Dp K H v (enc x)) : ∀ {vs : List V} {xs : List α}, Al r H vs xs → DpAll K H vs (xs.map enc)
  | [], [], _ => .nil
  | _ :: _, _ :: _, h => .cons (hd h.1) (Al.dps hd h.2)
  | [], _ :: _, h => h.elim
  | _ :: _, [], h => h.elim
theorem eqvs {enc : α → PyData} (he : ∀ x y, PyData.eqv (enc x) (enc y) = decide (x = y)) : ∀ xs ys : List α, PyData.eqvAll (xs.map enc) (ys.map enc) = decide (xs = ys)
  | [], [] => rfl
  | [], _ :: _ => rfl
  | _ :: _, [] => rfl
  | x :: xs, y :: ys => by
    show (PyData.eqv (enc x) (enc y) && PyData.eqvAll (xs.map enc) (ys.map enc)) = _
    rw [he, eqvs he xs ys]
    by_cases h1 : x = y
    · subst h1
      by_cases h2 : xs = ys
      · subst h2; simp
      · simp [h2]
    · simp [h1]
theorem lays {enc : α → PyData} {ok : α → Bool} (he : ∀ x, ok x = true → (enc x).canLay0 = true) : ∀ xs : List α, xs.all ok = true → PyData.canLayAll0 (xs.map enc) = true
  | [], _ => rfl
  | x :: xs, h => by
    rw [List.all_cons, Bool.and_eq_true] at h
    show (PyData.canLay0 (enc x) && PyData.canLayAll0 (xs.map enc)) = true
    rw [he x h.1, lays he xs h.2]
    rfl
theorem deps {enc : α → PyData} {n : Nat} (he : ∀ x, (enc x).depth ≤ n) : ∀ xs : List α, PyData.depthAll (xs.map enc) ≤ n
  | [] => by simp [PyData.depthAll]
  | x :: xs => by
    have h1 := he x
    have h2 := deps he xs
    simp only [List.map_cons, PyData.depthAll]
    omega
def dL (d : RD K α) : RD K (List α) := ⟨rL K d.r, fun xs => .list (xs.map d.enc), d.dep + 1, fun xs => xs.all d.ok, fun xs h => lays d.lay xs h, fun xs => by have := deps d.dpt xs; simp only [PyData.depth]; omega,
  fun {H v x} h => by obtain ⟨p, vs, rfl, hs, ha⟩ := h; exact .lst hs (ha.dps d.dp), fun x y => eqvs d.eqv x y⟩
def dT (d : RD K α) : RD K (List α) := ⟨rT K d.r, fun xs => .tuple (xs.map d.enc), d.dep + 1, fun xs => xs.all d.ok, fun xs h => lays d.lay xs h, fun xs => by have := deps d.dpt xs; simp only [PyData.depth]; omega,
  fun {H v x} h => by obtain ⟨p, vs, rfl, hs, ha⟩ := h; exact .tup hs (ha.dps d.dp), fun x y => eqvs d.eqv x y⟩
def dP (d : RD K α) (e : RD K β) : RD K (α × β) := ⟨rP K d.r e.r, fun x => .tuple [d.enc x.1, e.enc x.2], d.dep + e.dep + 1, fun x => d.ok x.1 && e.ok x.2,
  fun x h => by
    rw [Bool.and_eq_true] at h
    show (PyData.canLay0 _ && (PyData.canLay0 _ && true)) = true
    rw [d.lay _ h.1, e.lay _ h.2]; rfl,
  fun x => by have := d.dpt x.1; have := e.dpt x.2; simp only [PyData.depth, PyData.depthAll]; omega,
  fun {H v x} h => by obtain ⟨p, a, b, rfl, hs, h1, h2⟩ := h; exact .tup hs (.cons (d.dp h1) (.cons (e.dp h2) .nil)),
  fun x y => by
    show (PyData.eqv _ _ && (PyData.eqv _ _ && true)) = _
    obtain ⟨x1, x2⟩ := x
    obtain ⟨y1, y2⟩ := y
    rw [d.eqv, e.eqv, Bool.and_true]
    by_cases h1 : x1 = y1 <;> by_cases h2 : x2 = y2 <;> simp [h1, h2]⟩
def dP3 (d : RD K α) (e : RD K β) (f : RD K γ) : RD K (α × β × γ) := ⟨rP3 K d.r e.r f.r, fun x => .tuple [d.enc x.1, e.enc x.2.1, f.enc x.2.2], d.dep + e.dep + f.dep + 1, fun x => d.ok x.1 && (e.ok x.2.1 && f.ok x.2.2),
  fun x h => by
    rw [Bool.and_eq_true, Bool.and_eq_true] at h
    show (PyData.canLay0 _ && (PyData.canLay0 _ && (PyData.canLay0 _ && true))) = true
    rw [d.lay _ h.1, e.lay _ h.2.1, f.lay _ h.2.2]; rfl,
  fun x => by have := d.dpt x.1; have := e.dpt x.2.1; have := f.dpt x.2.2; simp only [PyData.depth, PyData.depthAll]; omega,
  fun {H v x} h => by obtain ⟨p, a, b, c, rfl, hs, h1, h2, h3⟩ := h; exact .tup hs (.cons (d.dp h1) (.cons (e.dp h2) (.cons (f.dp h3) .nil))),
  fun x y => by
    show (PyData.eqv _ _ && (PyData.eqv _ _ && (PyData.eqv _ _ && true))) = _
    obtain ⟨x1, x2, x3⟩ := x
    obtain ⟨y1, y2, y3⟩ := y
    rw [d.eqv, e.eqv, f.eqv, Bool.and_true]
    by_cases h1 : x1 = y1 <;> by_cases h2 : x2 = y2 <;> by_cases h3 : x3 = y3 <;> simp [h1, h2, h3]⟩
theorem RD.shaped (d : RD K α) (hd : d.dep ≤ 64) {x : α} (h : d.ok x = true) : SeqAt.shaped (d.enc x) = true := by
  unfold SeqAt.shaped
  rw [d.lay x h, decide_eq_true (Nat.le_trans (d.dpt x) hd)]
  rfl
variable {G H : Hp} {O : Own} {v w : V} {x y : α} {Q : VK}
/-- x == y of data: the reps at the heap as it stands -/
theorem q_eqD (d : RD K α) (hd : d.dep ≤ 64) (h1 : d.r.rel H v x) (h2 : d.r.rel H w y) (o1 : d.ok x = true) (o2 : d.ok y = true) (q : Q (.bl (decide (x = y))) H) : rEqD K v w H Q :=
  ⟨d.enc x, d.enc y, d.dp h1, d.dp h2, d.shaped hd o1, d.shaped hd o2, by rw [d.eqv]; exact q⟩
theorem q_neD (d : RD K α) (hd : d.dep ≤ 64) (h1 : d.r.rel H v x) (h2 : d.r.rel H w y) (o1 : d.ok x = true) (o2 : d.ok y = true) (q : Q (.bl (!decide (x = y))) H) : rNeD K v w H Q :=
  ⟨d.enc x, d.enc y, d.dp h1, d.dp h2, d.shaped hd o1, d.shaped hd o2, by rw [d.eqv]; exact q⟩
theorem okI : ∀ x, (dInt (K := K)).ok x = true := fun _ => rfl
theorem okB : ∀ x, (dBool (K := K)).ok x = true := fun _ => rfl
theorem okL {d : RD K α} (h : ∀ x, d.ok x = true) : ∀ xs, (dL d).ok xs = true := fun xs => List.all_eq_true.mpr fun x _ => h x
theorem okT {d : RD K α} (h : ∀ x, d.ok x = true) : ∀ xs, (dT d).ok xs = true := fun xs => List.all_eq_true.mpr fun x _ => h x
theorem okP {d : RD K α} {e : RD K β} (h : ∀ x, d.ok x = true) (h' : ∀ x, e.ok x = true) : ∀ x, (dP d e).ok x = true := fun x => by
  show (d.ok x.1 && e.ok x.2) = true
  rw [h, h']; rfl
theorem okP3 {d : RD K α} {e : RD K β} {f : RD K γ} (h : ∀ x, d.ok x = true) (h' : ∀ x, e.ok x = true) (h'' : ∀ x, f.ok x = true) : ∀ x, (dP3 d e f).ok x = true := fun x => by
  show (d.ok x.1 && (e.ok x.2.1 && f.ok x.2.2)) = true
  rw [h, h', h'']; rfl
theorem ok_all {ok : α → Bool} (h : ∀ x, ok x = true) (xs : List α) : xs.all ok = true := List.all_eq_true.mpr fun x _ => h x
end

/-! ### loops -/
def PvL {α σ ρ : Type} (f : σ → α → Option (Bf σ ρ)) (xs : List α) (res : Fl σ ρ) (I : σ → L2.St → Hp → Prop) (i : Nat) : L2.St → Hp → Prop := fun σ' H => ∃ s, I s σ' H ∧ forL f (xs.drop i) s = some res
section
variable {α β τ ρ : Type} {J : It} {n : Nat} {GW : Hp → Prop} {Y : Nat → Hp → V → Hp → Prop} {f : τ → α → Option (Bf τ ρ)} {xs : List α} {s0 : τ} {res : Fl τ ρ} {I : τ → L2.St → Hp → Prop} {g : TG} {tb : TS} {D : Ends} {σ : L2.St} {H : Hp}
theorem lp_it (w : Walk J n GW Y) (hn : xs.length = n) (hm : forL f xs s0 = some res) (I : τ → L2.St → Hp → Prop) (h0 : I s0 σ H) (hG : ∀ s σ H, I s σ H → GW H)
    (hs : ∀ (i : Nat) (x : α) (s : τ) (b : Bf τ ρ), xs[i]? = some x → f s x = some b → conL f (xs.drop (i + 1)) b = some res → ∀ v σ H H', I s σ H → Y i H v H' →
      g v σ H' fun σ2 H2 => tb { D with nx := PvL f xs res I (i + 1), ct := PvL f xs res I (i + 1), bk := D.nx } σ2 H2)
    (hd : ∀ s σ H, res = .nx s → I s σ H → D.nx σ H) :
    LpW g tb D σ J H := by
  refine for_it w (PvL f xs res I) ⟨s0, h0, hm⟩ (fun i σ H _ ⟨s, hI, _⟩ => hG s σ H hI) (fun i v σ H H' hi ⟨s, hI, hf⟩ hy => ?_) fun σ H ⟨s, hI, hf⟩ => ?_
  · have hx : xs[i]? = some xs[i] := List.getElem?_eq_getElem (by omega)
    obtain ⟨b, hb, hr⟩ := forL_drop hx hf
    exact hs i _ s b hx hb hr v σ H H' hI hy
  · rw [← hn, List.drop_length] at hf
    exact hd s σ H (Option.some.inj hf).symm hI
variable {K : PySem.W.Frag} {G : Hp} {O : Own} {r : R α} {v : V} {vs : List V} {a : Addr}
theorem Al.at {i : Nat} {x : α} {w : V} (h : Al r G vs xs) (hx : xs[i]? = some x) (hw : vs[i]? = some w) : r.rel G w x := by
  obtain ⟨w', h1, h2⟩ := h.get hx
  rw [hw] at h1; cases h1; exact h2
/-- for x in a frozen list -/
theorem lp_L (S : Sub G O H) (h : (rL K r).rel G v xs) (hm : forL f xs s0 = some res) (I : τ → L2.St → Hp → Prop) (h0 : I s0 σ H) (hG : ∀ s σ H, I s σ H → Ext G H)
    (hs : ∀ (i : Nat) (x : α) (s : τ) (b : Bf τ ρ), f s x = some b → conL f (xs.drop (i + 1)) b = some res → ∀ w σ H, I s σ H → r.rel G w x →
      g w σ H fun σ2 H2 => tb { D with nx := PvL f xs res I (i + 1), ct := PvL f xs res I (i + 1), bk := D.nx } σ2 H2)
    (hd : ∀ s σ H, res = .nx s → I s σ H → D.nx σ H) :
    itL K v H (LpW g tb D σ) := by
  obtain ⟨p, vs, rfl, hq, ha⟩ := h
  refine ⟨p, rfl, ⟨vs, sqL_up S.ext hq⟩, lp_it (walk_list (xs := vs)) ha.len.symm hm I h0 (fun s σ H hI => sqL_up (hG s σ H hI) hq) (fun i x s b hx hb hr w σ H H' hI hY => ?_) hd⟩
  obtain ⟨rfl, hw⟩ := hY
  exact hs i x s b hb hr w σ _ hI (ha.at hx hw)
/-- for x in a frozen tuple -/
theorem lp_T (S : Sub G O H) (h : (rT K r).rel G v xs) (hm : forL f xs s0 = some res) (I : τ → L2.St → Hp → Prop) (h0 : I s0 σ H) (hG : ∀ s σ H, I s σ H → Ext G H)
    (hs : ∀ (i : Nat) (x : α) (s : τ) (b : Bf τ ρ), f s x = some b → conL f (xs.drop (i + 1)) b = some res → ∀ w σ H, I s σ H → r.rel G w x →
      g w σ H fun σ2 H2 => tb { D with nx := PvL f xs res I (i + 1), ct := PvL f xs res I (i + 1), bk := D.nx } σ2 H2)
    (hd : ∀ s σ H, res = .nx s → I s σ H → D.nx σ H) :
    itT K v H (LpW g tb D σ) := by
  obtain ⟨p, vs, rfl, hq, ha⟩ := h
  refine ⟨p, rfl, ⟨vs, sqT_up S.ext hq⟩, lp_it (walk_tup (xs := vs)) ha.len.symm hm I h0 (fun s σ H hI => sqT_up (hG s σ H hI) hq) (fun i x s b hx hb hr w σ H H' hI hY => ?_) hd⟩
  obtain ⟨rfl, hw⟩ := hY
  exact hs i x s b hb hr w σ _ hI (ha.at hx hw)
theorem rng_at {n i k : Nat} (h : (List.range n)[i]? = some k) : k = i := by
  obtain ⟨h1, h2⟩ := List.getElem?_eq_some_iff.mp h
  rw [List.getElem_range] at h2
  exact h2.symm
/-- for i in range(n) -/
theorem lp_R {f : τ → Int → Option (Bf τ ρ)} {xs : List Int} {n : Int} (hx : rngM n = some xs) (hm : forL f xs s0 = some res) (I : τ → L2.St → Hp → Prop) (h0 : I s0 σ H)
    (hs : ∀ (i : Nat) (x : Int) (s : τ) (b : Bf τ ρ), f s x = some b → conL f (xs.drop (i + 1)) b = some res → ∀ σ H, I s σ H →
      g (.int x) σ H fun σ2 H2 => tb { D with nx := PvL f xs res I (i + 1), ct := PvL f xs res I (i + 1), bk := D.nx } σ2 H2)
    (hd : ∀ s σ H, res = .nx s → I s σ H → D.nx σ H) :
    itR [V.int n] H (LpW g tb D σ) := by
  obtain ⟨c, rfl⟩ := rngM_some hx
  refine ⟨n, rfl, c.1, c.2, lp_it walk_range (by simp) hm I h0 (fun _ _ _ _ => True.intro) (fun i x s b hx hb hr w σ H H' hI hY => ?_) hd⟩
  obtain ⟨rfl, hw⟩ := hY
  have e : (0 : Int) + (i : Nat) = x := by
    rw [List.getElem?_map] at hx
    obtain ⟨k, h1, h2⟩ := Option.map_eq_some_iff.mp hx
    have := rng_at h1
    omega
  have e2 : w = .int x := by rw [hw, ← e]
  rw [e2]
  exact hs i x s b hb hr σ _ hI
theorem lp_R2 {f : τ → Int → Option (Bf τ ρ)} {xs : List Int} {lo n : Int} (hx : rng2M lo n = some xs) (hm : forL f xs s0 = some res) (I : τ → L2.St → Hp → Prop) (h0 : I s0 σ H)
    (hs : ∀ (i : Nat) (x : Int) (s : τ) (b : Bf τ ρ), f s x = some b → conL f (xs.drop (i + 1)) b = some res → ∀ σ H, I s σ H →
      g (.int x) σ H fun σ2 H2 => tb { D with nx := PvL f xs res I (i + 1), ct := PvL f xs res I (i + 1), bk := D.nx } σ2 H2)
    (hd : ∀ s σ H, res = .nx s → I s σ H → D.nx σ H) :
    itR2 [V.int lo, V.int n] H (LpW g tb D σ) := by
  obtain ⟨c, rfl⟩ := rng2M_some hx
  refine ⟨lo, n, rfl, c, lp_it walk_range (by simp) hm I h0 (fun _ _ _ _ => True.intro) (fun i x s b hx hb hr w σ H H' hI hY => ?_) hd⟩
  obtain ⟨rfl, hw⟩ := hY
  have e : lo + (i : Nat) = x := by
    rw [List.getElem?_map] at hx
    obtain ⟨k, h1, h2⟩ := Option.map_eq_some_iff.mp hx
    have := rng_at h1
    omega
  have e2 : w = .int x := by rw [hw, ← e]
  rw [e2]
  exact hs i x s b hb hr σ _ hI
/-- for i, x in enumerate(a list or a tuple) -/
theorem walk_enumT {xs : List V} : Walk (IteT K a) xs.length (fun H => SqT K H a xs) (YPair (fun i => some (.int (i : Nat))) (fun i => xs[i]?)) := by
  refine ⟨fun i _ hi q => ⟨xs, xs[i], q, by simp [hi]⟩, fun _ q => ⟨xs, q, rfl⟩, fun i H v H' _ q y => ?_⟩
  obtain ⟨T, x, h1, h2, h3, h4⟩ := y
  exact ⟨T, .int (i : Nat), x, h1, h2, h3, rfl, h4 xs q⟩
theorem lp_Eit {f : τ → Int × α → Option (Bf τ ρ)} {i1 i2 : Nat} {J : It} {vs : List V} (w : Walk J vs.length GW (YPair (fun i => some (.int (i : Nat))) (fun i => vs[i]?))) (ha : Al r G vs xs) (hm : forL f (enumM xs) s0 = some res) (I : τ → L2.St → Hp → Prop) (h0 : I s0 σ H) (hG : ∀ s σ H, I s σ H → GW H)
    (hs : ∀ (i : Nat) (x : α) (s : τ) (b : Bf τ ρ), f s ((i : Int), x) = some b → conL f ((enumM xs).drop (i + 1)) b = some res → ∀ w σ H H', I s σ H → (∀ G O, Sub G O H → Sub G O H') → r.rel G w x →
      tb { D with nx := PvL f (enumM xs) res I (i + 1), ct := PvL f (enumM xs) res I (i + 1), bk := D.nx } ((σ.set i1 (some (.int (i : Int)))).set i2 (some w)) H')
    (hd : ∀ s σ H, res = .nx s → I s σ H → D.nx σ H) :
    LpW (gTup K 2 (gCons (gName i1) (gCons (gName i2) gNil))) tb D σ J H := by
  refine lp_it w (by rw [enumM_length, ha.len]) hm I h0 hG (fun i y s b hx hb hr v σ H H' hI hY => ?_) hd
  rw [enumM_get] at hx
  obtain ⟨x, hx2, rfl⟩ := Option.map_eq_some_iff.mp hx
  obtain ⟨T, k, w, rfl, hT, rfl, hk, hw⟩ := hY
  cases hk
  exact ⟨T, _, rfl, .inl (.inl upd_same), rfl, _, _, rfl, _, _, rfl, rfl, hs i x s b hb hr w σ H _ hI (fun G O S => S.junk hT) (ha.at hx2 hw)⟩
/-- for i, x in enumerate(xs): a frozen list or tuple -/
theorem lp_EQ {f : τ → Int × α → Option (Bf τ ρ)} {i1 i2 : Nat} (S : Sub G O H) (h : (rQ K r).rel G v xs) (hm : forL f (enumM xs) s0 = some res) (I : τ → L2.St → Hp → Prop) (h0 : I s0 σ H) (hG : ∀ s σ H, I s σ H → Ext G H)
    (hs : ∀ (i : Nat) (x : α) (s : τ) (b : Bf τ ρ), f s ((i : Int), x) = some b → conL f ((enumM xs).drop (i + 1)) b = some res → ∀ w σ H H', I s σ H → (∀ G O, Sub G O H → Sub G O H') → r.rel G w x →
      tb { D with nx := PvL f (enumM xs) res I (i + 1), ct := PvL f (enumM xs) res I (i + 1), bk := D.nx } ((σ.set i1 (some (.int (i : Int)))).set i2 (some w)) H')
    (hd : ∀ s σ H, res = .nx s → I s σ H → D.nx σ H) :
    itE K [v] H (LpW (gTup K 2 (gCons (gName i1) (gCons (gName i2) gNil))) tb D σ) := by
  obtain ⟨p, vs, rfl, hq, ha⟩ := h
  refine ⟨p, vs, rfl, ?_⟩
  rcases hq with hq | hq
  · exact .inl ⟨sqL_up S.ext hq, lp_Eit walk_enum ha hm I h0 (fun s σ H hI => sqL_up (hG s σ H hI) hq) hs hd⟩
  · exact .inr ⟨sqT_up S.ext hq, lp_Eit walk_enumT ha hm I h0 (fun s σ H hI => sqT_up (hG s σ H hI) hq) hs hd⟩
end
end Mr

set_option linter.all false
set_option maxRecDepth 100000
namespace Mr
def m_fill_widths_b1 (measure1 : Int) : ((List (List (Int × Int))) × (List (Int × Int)) × Int) → (Int × Int) → Option ((List (List (Int × Int))) × (List (Int × Int)) × Int) := fun s x => match s, x with
  | (lines2, line2, pen2), (k7, x1) => Option.bind (if ((!decide (line2 = ([] : (List (Int × Int))))) && (decide (((pen2 + (1 : Int)) + x1) > measure1))) then (Option.bind (appM lines2 line2) fun lines5 =>
  some (lines5, ([] : List (Int × Int))))
  else (some (lines2, line2))) fun (lines4, line3) =>
  Option.bind (if (decide (line3 = ([] : (List (Int × Int))))) then (some (0 : Int))
  else (some (pen2 + (1 : Int)))) fun column1 =>
  Option.bind (appM line3 (k7, column1)) fun line4 =>
  some (lines4, line4, (column1 + x1))
def m_fill_widths (measure1 : Int) (widths1 : (List Int)) : Option (List (List (Int × Int))) :=
  Option.bind (folM (m_fill_widths_b1 measure1) (enumM widths1) (([] : List (List (Int × Int))), ([] : List (Int × Int)), (0 : Int))) fun (lines1, line1, pen1) =>
  Option.bind (if (!decide (line1 = ([] : (List (Int × Int))))) then (Option.bind (appM lines1 line1) fun lines8 =>
  some lines8)
  else (some lines1)) fun lines7 =>
  some lines7

def m_pen_after (measure1 : Int) (pen1 : Int) (width1 : Int) : Option (Int × Bool) :=
  if ((decide (pen1 > (0 : Int))) && (decide (((pen1 + (1 : Int)) + width1) ≤ measure1))) then (some (((pen1 + (1 : Int)) + width1), false))
  else (some ((if (measure1 + (1 : Int)) < width1 then (measure1 + (1 : Int)) else width1), true))

def m_law_bag_b1 : (Int) → (Int × Int) → Option (Int) := fun s x => match s, x with
  | mixed2, (k3, x4) => some ((((mixed2 * (16807 : Int)) + (x4 % (2147483629 : Int))) + ((13 : Int) * k3)) % (2147483647 : Int))
def m_law_bag (script1 : (List Int)) (at1 : Int) : Option (List Int) :=
  Option.bind (if (decide (at1 < (script1.length : Int))) then (Option.bind (getM script1 at1) fun x1 =>
  some (if x1 < 0 then -x1 else x1)) else (some (0 : Int))) fun x2 =>
  Option.bind (folM (m_law_bag_b1) (enumM (cutM script1 none (some (63 : Int)))) ((1009 : Int) + ((77 : Int) * at1))) fun mixed1 =>
  some ([(if (decide (x2 ≥ ((10 : Int) ^ (18 : Int).toNat))) then x2 else (0 : Int)), mixed1, (0 : Int)] : List Int)

def m_law_draw (bag_here1 : (List Int)) (many1 : Int) : Option (Int × (List Int)) :=
  Option.bind (getM bag_here1 (0 : Int)) fun x1 =>
  if (decide (x1 > (0 : Int))) then (Option.bind (getM bag_here1 (0 : Int)) fun x2 =>
  Option.bind (modM x2 many1) fun x3 =>
  Option.bind (getM bag_here1 (0 : Int)) fun x4 =>
  Option.bind (fdivM x4 many1) fun x5 =>
  Option.bind (setM bag_here1 (0 : Int) x5) fun bag_here2 =>
  some (x3, bag_here2))
  else (Option.bind (getM bag_here1 (2 : Int)) fun x6 =>
  Option.bind (setM bag_here1 (2 : Int) (x6 + (1 : Int))) fun bag_here3 =>
  Option.bind (getM bag_here3 (1 : Int)) fun x7 =>
  Option.bind (getM bag_here3 (2 : Int)) fun x8 =>
  Option.bind (setM bag_here3 (1 : Int) ((((x7 * (48271 : Int)) + ((11 : Int) * x8)) + (7 : Int)) % (2147483647 : Int))) fun bag_here4 =>
  Option.bind (getM bag_here4 (1 : Int)) fun x9 =>
  Option.bind (getM bag_here4 (2 : Int)) fun x10 =>
  Option.bind (modM ((((x9 * (69621 : Int)) + ((4099 : Int) * x10)) % (2147483629 : Int)) / (128 : Int)) many1) fun x11 =>
  some (x11, bag_here4))

def m_law_number (thing1 : Int) : Option Bool :=
  some (true && (!false))

def m_law_widths_b1 (measure1 : Int) : ((List Int) × (List Int)) → Int → Option ((List Int) × (List Int)) := fun s x2 => match s with
  | (bag_here10, found2) => Option.bind (Option.bind (m_law_draw bag_here10 (2 : Int)) fun (r7, bag_here11) =>
  if (decide (r7 = (1 : Int))) then (some ((4 : Int), bag_here11)) else (some ((measure1 + (3 : Int)), bag_here11))) fun (x3, bag_here12) =>
  Option.bind (m_law_draw bag_here12 x3) fun (r9, bag_here14) =>
  Option.bind (appM found2 ((1 : Int) + r9)) fun found3 =>
  some (bag_here14, found3)
def m_law_widths (bag_here1 : (List Int)) (measure1 : Int) : Option ((List Int) × (List Int)) :=
  Option.bind (Option.bind (m_law_draw bag_here1 (4 : Int)) fun (r1, bag_here2) =>
  if (decide (r1 = (3 : Int))) then (Option.bind (m_law_draw bag_here2 (61 : Int)) fun (r2, bag_here3) =>
  some (r2, bag_here3)) else (Option.bind (m_law_draw bag_here2 (9 : Int)) fun (r3, bag_here4) =>
  some (r3, bag_here4))) fun (x1, bag_here5) =>
  Option.bind (rngM x1) fun xs1 =>
  Option.bind (folM (m_law_widths_b1 measure1) xs1 (bag_here5, ([] : List Int))) fun (bag_here9, found1) =>
  some (found1, bag_here9)

def m_law_pair_right (pair1 : (Int × Int)) (place1 : Int) (column1 : Int) : Option Bool :=
  if ((!true) || (!decide ((2 : Int) = (2 : Int)))) then (some false)
  else (Option.bind (Option.bind (m_law_number pair1.1) fun r1 =>
  if r1 then (Option.bind (m_law_number pair1.2) fun r2 =>
  if r2 then (some (decide (pair1 = (place1, column1)))) else some false) else some false) fun x1 =>
  some x1)

def m_law_pen_right (told1 : (Int × Bool)) (pen1 : Int) (begins1 : Bool) : Option Bool :=
  if ((!true) || (!decide ((2 : Int) = (2 : Int)))) then (some false)
  else (Option.bind (Option.bind (m_law_number told1.1) fun r1 =>
  if r1 then (if true then (some (decide (told1 = (pen1, begins1)))) else some false) else some false) fun x1 =>
  some x1)

def m_law_right_b2 (measure1 : Int) (widths_here1 : (List Int)) : (Int × Int × Int) → (Int × (Int × Int)) → Option (Bf (Int × Int × Int) Bool) := fun s x => match s, x with
  | (place4, pen4, end4), (k8, x3) => Option.bind (if (decide (place4 ≥ (widths_here1.length : Int))) then some true else (Option.bind (m_law_pair_right x3 place4 (if (decide (k8 > (0 : Int))) then (end4 + (1 : Int)) else (0 : Int))) fun r2 =>
  some (!r2))) fun x4 =>
  if x4 then (some (Bf.rt false))
  else (Option.bind (if (decide (place4 > (0 : Int))) then (Option.bind (getM widths_here1 place4) fun x5 =>
  some (decide (((end4 + (1 : Int)) + x5) ≤ measure1))) else some false) fun x6 =>
  if ((decide (k8 > (0 : Int))) != x6) then (some (Bf.rt false))
  else (Option.bind (getM widths_here1 place4) fun x8 =>
  Option.bind (getM widths_here1 place4) fun x9 =>
  Option.bind (m_pen_after measure1 pen4 x9) fun r4 =>
  Option.bind (m_law_pen_right r4 (if (measure1 + (1 : Int)) < (x8 + (if (decide (k8 > (0 : Int))) then (end4 + (1 : Int)) else (0 : Int))) then (measure1 + (1 : Int)) else (x8 + (if (decide (k8 > (0 : Int))) then (end4 + (1 : Int)) else (0 : Int)))) (decide (k8 = (0 : Int)))) fun r5 =>
  if (!r5) then (some (Bf.rt false))
  else (some (Bf.go ((place4 + (1 : Int)), (if (measure1 + (1 : Int)) < (x8 + (if (decide (k8 > (0 : Int))) then (end4 + (1 : Int)) else (0 : Int))) then (measure1 + (1 : Int)) else (x8 + (if (decide (k8 > (0 : Int))) then (end4 + (1 : Int)) else (0 : Int)))), (x8 + (if (decide (k8 > (0 : Int))) then (end4 + (1 : Int)) else (0 : Int))))))))
def m_law_right_b1 (measure1 : Int) (widths_here1 : (List Int)) : (Int × Int × Int) → (List (Int × Int)) → Option (Bf (Int × Int × Int) Bool) := fun s x2 => match s with
  | (place2, pen2, end2) => if ((!true) || (decide (x2 = ([] : (List (Int × Int)))))) then (some (Bf.rt false))
  else (Option.bind (forL (m_law_right_b2 measure1 widths_here1) (enumM x2) (place2, pen2, end2)) fun res => match res with
  | Fl.rt r => some (Bf.rt r)
  | Fl.nx (place3, pen3, end3) => some (Bf.go (place3, pen3, end3)))
def m_law_right (measure1 : Int) (widths_here1 : (List Int)) (handed1 : (List Int)) : Option Bool :=
  Option.bind (m_fill_widths measure1 handed1) fun r1 =>
  Option.bind (if (!decide (handed1 = widths_here1)) then some true else (some (!true))) fun x1 =>
  if x1 then (some false)
  else (Option.bind (forL (m_law_right_b1 measure1 widths_here1) r1 ((0 : Int), (0 : Int), (0 : Int))) fun res => match res with
  | Fl.rt r => some r
  | Fl.nx (place1, pen1, end1) => some (decide (place1 = (widths_here1.length : Int))))

def m_law_b1 (script1 : (List Int)) : (Unit) → Int → Option (Bf (Unit) Bool) := fun _ x1 => Option.bind (m_law_bag script1 x1) fun r1 =>
  Option.bind (Option.bind (m_law_draw r1 (4 : Int)) fun (r2, r3) =>
  if (decide (r2 = (3 : Int))) then (Option.bind (m_law_draw r3 ((10 : Int) ^ (12 : Int).toNat)) fun (r4, r5) =>
  some (r4, r5)) else (Option.bind (m_law_draw r3 (9 : Int)) fun (r6, r7) =>
  some (r6, r7))) fun (x2, bag_here1) =>
  Option.bind (m_law_widths bag_here1 ((1 : Int) + x2)) fun (r14, bag_here2) =>
  Option.bind (Option.bind (m_law_draw bag_here2 (2 : Int)) fun (r15, bag_here3) =>
  if (decide (r15 = (1 : Int))) then (some (r14, bag_here3)) else (some (r14, bag_here3))) fun (x3, bag_here4) =>
  Option.bind (m_law_right ((1 : Int) + x2) r14 x3) fun r17 =>
  if (!r17) then (some (Bf.rt false))
  else (some (Bf.go ()))
def m_law (script1 : (List Int)) : Option Bool :=
  Option.bind (rngM (if (if (24 : Int) < (script1.length : Int) then (24 : Int) else (script1.length : Int)) > (1 : Int) then (if (24 : Int) < (script1.length : Int) then (24 : Int) else (script1.length : Int)) else (1 : Int))) fun xs1 =>
  Option.bind (forL (m_law_b1 script1) xs1 ()) fun res => match res with
  | Fl.rt r => some r
  | Fl.nx _ => some true
end Mr

set_option Elab.async false
set_option linter.all false
set_option maxRecDepth 100000
set_option maxHeartbeats 4000000
namespace Mr
open PySem PySem.Spec PyProof.Rows L2
def top (i : Nat) : Stmt := PySem.Challenge.pw_pressalike_k22_widths_filled.main.body.getD i (.Pass ⟨0, 0, 0, 0⟩)
abbrev s_fill_widths : Stmt := top 1
abbrev s_pen_after : Stmt := top 3
abbrev s_law_bag : Stmt := top 5
abbrev s_law_draw : Stmt := top 6
abbrev s_law_number : Stmt := top 7
abbrev s_law_widths : Stmt := top 8
abbrev s_law_pair_right : Stmt := top 9
abbrev s_law_pen_right : Stmt := top 10
abbrev s_law_right : Stmt := top 11
abbrev s_law : Stmt := top 12
structure Tx (K : PySem.W.Frag) (mg : Str → Option Value) where
  fd_fill_widths : FuncData
  F_fill_widths : FunD K "fill_widths" "fill_widths" (defArgs s_fill_widths) (defBody s_fill_widths) (defScope s_fill_widths) [] [] (He.fAd K ("fill_widths", none)) fd_fill_widths
  g_fill_widths : mg "fill_widths" = some (.ref (He.fAd K ("fill_widths", none)))
  b_fill_widths : Binds K fd_fill_widths ["measure", "widths"] []
  fd_pen_after : FuncData
  F_pen_after : FunD K "pen_after" "pen_after" (defArgs s_pen_after) (defBody s_pen_after) (defScope s_pen_after) [] [] (He.fAd K ("pen_after", none)) fd_pen_after
  g_pen_after : mg "pen_after" = some (.ref (He.fAd K ("pen_after", none)))
  b_pen_after : Binds K fd_pen_after ["measure", "pen", "width"] []
  fd_law_bag : FuncData
  F_law_bag : FunD K "_law_bag" "_law_bag" (defArgs s_law_bag) (defBody s_law_bag) (defScope s_law_bag) [] [] (He.fAd K ("_law_bag", none)) fd_law_bag
  g_law_bag : mg "_law_bag" = some (.ref (He.fAd K ("_law_bag", none)))
  b_law_bag : Binds K fd_law_bag ["_law_script", "_law_at"] []
  fd_law_draw : FuncData
  F_law_draw : FunD K "_law_draw" "_law_draw" (defArgs s_law_draw) (defBody s_law_draw) (defScope s_law_draw) [] [] (He.fAd K ("_law_draw", none)) fd_law_draw
  g_law_draw : mg "_law_draw" = some (.ref (He.fAd K ("_law_draw", none)))
  b_law_draw : Binds K fd_law_draw ["_law_bag_here", "_law_many"] []
  fd_law_number : FuncData
  F_law_number : FunD K "_law_number" "_law_number" (defArgs s_law_number) (defBody s_law_number) (defScope s_law_number) [] [] (He.fAd K ("_law_number", none)) fd_law_number
  g_law_number : mg "_law_number" = some (.ref (He.fAd K ("_law_number", none)))
  b_law_number : Binds K fd_law_number ["_law_thing"] []
  fd_law_widths : FuncData
  F_law_widths : FunD K "_law_widths" "_law_widths" (defArgs s_law_widths) (defBody s_law_widths) (defScope s_law_widths) [] [] (He.fAd K ("_law_widths", none)) fd_law_widths
  g_law_widths : mg "_law_widths" = some (.ref (He.fAd K ("_law_widths", none)))
  b_law_widths : Binds K fd_law_widths ["_law_bag_here", "_law_measure"] []
  fd_law_pair_right : FuncData
  F_law_pair_right : FunD K "_law_pair_right" "_law_pair_right" (defArgs s_law_pair_right) (defBody s_law_pair_right) (defScope s_law_pair_right) [] [] (He.fAd K ("_law_pair_right", none)) fd_law_pair_right
  g_law_pair_right : mg "_law_pair_right" = some (.ref (He.fAd K ("_law_pair_right", none)))
  b_law_pair_right : Binds K fd_law_pair_right ["_law_pair", "_law_place", "_law_column"] []
  fd_law_pen_right : FuncData
  F_law_pen_right : FunD K "_law_pen_right" "_law_pen_right" (defArgs s_law_pen_right) (defBody s_law_pen_right) (defScope s_law_pen_right) [] [] (He.fAd K ("_law_pen_right", none)) fd_law_pen_right
  g_law_pen_right : mg "_law_pen_right" = some (.ref (He.fAd K ("_law_pen_right", none)))
  b_law_pen_right : Binds K fd_law_pen_right ["_law_told", "_law_pen", "_law_begins"] []
  fd_law_right : FuncData
  F_law_right : FunD K "_law_right" "_law_right" (defArgs s_law_right) (defBody s_law_right) (defScope s_law_right) [] [] (He.fAd K ("_law_right", none)) fd_law_right
  g_law_right : mg "_law_right" = some (.ref (He.fAd K ("_law_right", none)))
  b_law_right : Binds K fd_law_right ["_law_measure", "_law_widths_here", "_law_handed"] []
  fd_law : FuncData
  F_law : FunD K "law" "law" (defArgs s_law) (defBody s_law) (defScope s_law) [] [] (He.fAd K ("law", none)) fd_law
  g_law : mg "law" = some (.ref (He.fAd K ("law", none)))
  b_law : Binds K fd_law ["_law_script"] []
  z_abs : mg "abs" = none
  z_bool : mg "bool" = none
  z_enumerate : mg "enumerate" = none
  z_int : mg "int" = none
  z_isinstance : mg "isinstance" = none
  z_len : mg "len" = none
  z_list : mg "list" = none
  z_max : mg "max" = none
  z_min : mg "min" = none
  z_range : mg "range" = none
  z_tuple : mg "tuple" = none
def sp_fill_widths (K : PySem.W.Frag) : Sp := fun vs H Q _ => ∃ (G : Hp) (O : Own) (measure1 : Int) (v1 : V) (widths1 : (List Int)), vs = [(V.int measure1), v1] ∧ Sub G (O) H ∧ R.rel (rQ K rInt) G v1 widths1 ∧ ∃ res, m_fill_widths measure1 widths1 = some res ∧
  ∀ (v : V) (G' H' : Hp), Ext G G' → Sub G' (O) H' → R.rel (rT K (rT K (rP K rInt rInt))) G' v res → Q v H'
def sp_pen_after (K : PySem.W.Frag) : Sp := fun vs H Q _ => ∃ (G : Hp) (O : Own) (measure1 : Int) (pen1 : Int) (width1 : Int), vs = [(V.int measure1), (V.int pen1), (V.int width1)] ∧ Sub G (O) H ∧ ∃ res, m_pen_after measure1 pen1 width1 = some res ∧
  ∀ (v : V) (G' H' : Hp), Ext G G' → Sub G' (O) H' → R.rel (rP K rInt rBool) G' v res → Q v H'
def sp_law_bag (K : PySem.W.Frag) : Sp := fun vs H Q _ => ∃ (G : Hp) (O : Own) (v1 : V) (script1 : (List Int)) (at1 : Int), vs = [v1, (V.int at1)] ∧ Sub G (O) H ∧ R.rel (rL K rInt) G v1 script1 ∧ ∃ res, m_law_bag script1 at1 = some res ∧
  ∀ (p : Addr) (w : List V) (G' H' : Hp), Ext G G' → Sub G' ((p, HO.lst w) :: O) H' → Al rInt G' w res → Q (V.ref p) H'
def sp_law_draw (K : PySem.W.Frag) : Sp := fun vs H Q _ => ∃ (G : Hp) (O : Own) (a1 : Addr) (w1 : List V) (bag_here1 : List Int) (many1 : Int), vs = [V.ref a1, (V.int many1)] ∧ Sub G ((a1, HO.lst w1) :: O) H ∧ Al rInt G w1 bag_here1 ∧ ∃ res, m_law_draw bag_here1 many1 = some res ∧
  ∀ (G' H' : Hp) (w'0 : List V), Ext G G' → Sub G' ((a1, HO.lst w'0) :: O) H' → Al rInt G' w'0 res.2 → Q (V.int res.1) H'
def sp_law_number (K : PySem.W.Frag) : Sp := fun vs H Q _ => ∃ (G : Hp) (O : Own) (thing1 : Int), vs = [(V.int thing1)] ∧ Sub G (O) H ∧ ∃ res, m_law_number thing1 = some res ∧
  ∀ (G' H' : Hp), Ext G G' → Sub G' (O) H' → Q (V.bl res) H'
def sp_law_widths (K : PySem.W.Frag) : Sp := fun vs H Q _ => ∃ (G : Hp) (O : Own) (a1 : Addr) (w1 : List V) (bag_here1 : List Int) (measure1 : Int), vs = [V.ref a1, (V.int measure1)] ∧ Sub G ((a1, HO.lst w1) :: O) H ∧ Al rInt G w1 bag_here1 ∧ ∃ res, m_law_widths bag_here1 measure1 = some res ∧
  ∀ (v : V) (G' H' : Hp) (w'0 : List V), Ext G G' → Sub G' ((a1, HO.lst w'0) :: O) H' → R.rel (rL K rInt) G' v res.1 → Al rInt G' w'0 res.2 → Q v H'
def sp_law_pair_right (K : PySem.W.Frag) : Sp := fun vs H Q _ => ∃ (G : Hp) (O : Own) (v1 : V) (pair1 : (Int × Int)) (place1 : Int) (column1 : Int), vs = [v1, (V.int place1), (V.int column1)] ∧ Sub G (O) H ∧ R.rel (rP K rInt rInt) G v1 pair1 ∧ ∃ res, m_law_pair_right pair1 place1 column1 = some res ∧
  ∀ (G' H' : Hp), Ext G G' → Sub G' (O) H' → Q (V.bl res) H'
def sp_law_pen_right (K : PySem.W.Frag) : Sp := fun vs H Q _ => ∃ (G : Hp) (O : Own) (v1 : V) (told1 : (Int × Bool)) (pen1 : Int) (begins1 : Bool), vs = [v1, (V.int pen1), (V.bl begins1)] ∧ Sub G (O) H ∧ R.rel (rP K rInt rBool) G v1 told1 ∧ ∃ res, m_law_pen_right told1 pen1 begins1 = some res ∧
  ∀ (G' H' : Hp), Ext G G' → Sub G' (O) H' → Q (V.bl res) H'
def sp_law_right (K : PySem.W.Frag) : Sp := fun vs H Q _ => ∃ (G : Hp) (O : Own) (measure1 : Int) (v1 : V) (widths_here1 : (List Int)) (v2 : V) (handed1 : (List Int)), vs = [(V.int measure1), v1, v2] ∧ Sub G (O) H ∧ R.rel (rL K rInt) G v1 widths_here1 ∧ R.rel (rQ K rInt) G v2 handed1 ∧ ∃ res, m_law_right measure1 widths_here1 handed1 = some res ∧
  ∀ (G' H' : Hp), Ext G G' → Sub G' (O) H' → Q (V.bl res) H'
def sp_law (K : PySem.W.Frag) : Sp := fun vs H Q _ => ∃ (G : Hp) (O : Own) (v1 : V) (script1 : (List Int)), vs = [v1] ∧ Sub G (O) H ∧ R.rel (rL K rInt) G v1 script1 ∧ ∃ res, m_law script1 = some res ∧
  ∀ (G' H' : Hp), Ext G G' → Sub G' (O) H' → Q (V.bl res) H'
end Mr

set_option Elab.async false
set_option linter.all false
set_option maxRecDepth 100000
set_option maxHeartbeats 4000000
namespace Mr
open PySem PySem.Spec PyProof.Rows L2
section
variable {P : Program} {w : World} {K : PySem.W.Frag} {mg : Str → Option Value} {base : Heap}
theorem sc_law_number : FnScope ["_law_thing"] ["_law_thing"] (defScope s_law_number) := ⟨rfl, rfl, rfl, by decide +kernel, rfl, by decide +kernel, by decide +kernel⟩
theorem ok_law_number (T : Tx K mg) : FnOk P w K mg base CX0 1 (He.fAd K ("_law_number", none)) T.fd_law_number ["_law_thing"] (sp_law_number K) := by
  refine T.F_law_number.ok sc_law_number (fun vs H Q E h => ?_) (fun cdv A outer s H0 vs Q E hr h => ?_)
  · obtain ⟨G, O, thing1, rfl, _⟩ := h
    rfl
  · obtain ⟨G0, O, thing1, rfl, S0, res, hm, q⟩ := h
    refine ⟨_, PSs.nox (pss_one (ps_ret (pe_cut (pe_and (pe_callB call_isi (by rfl) T.z_isinstance boot_isinstance (pa_cons (pv 0) (pa_cons (pe_bltn (v := .ty "int") (by rfl) T.z_int boot_int rfl) pa_nil))) (pe_one (pe_not (pe_callB call_isi (by rfl) T.z_isinstance boot_isinstance (pa_cons (pv 0) (pa_cons (pe_bltn (v := .ty "bool") (by rfl) T.z_bool boot_bool rfl) pa_nil))))))))), ?_⟩
    have E0 := Ext.refl G0
    have hm0 : (some (true && (!false))) = some res := hm
    refine gRet ?_
    refine gCE (fun (b : V) (H : Hp) => ∃ G : Hp, Ext G0 G ∧ Sub G (O) H ∧ b = V.bl (true && (!false))) ?_ ?_
    · skip
      refine gAndV ?_
      refine gCB ?_
      refine gCons' ?_
      refine gV rfl ?_
      refine gCons' ?_
      refine gC ?_
      refine gNil' ?_
      refine q_isi (ty_I _) (by decide +kernel : kitB "int" "int" = some true) ?_
      refine ⟨true, rfl, ?_⟩
      refine ite2 (fun c1 => ?_) (fun c1 => ?_)
      · skip
        refine gNotV ?_
        refine gCB ?_
        refine gCons' ?_
        refine gV rfl ?_
        refine gCons' ?_
        refine gC ?_
        refine gNil' ?_
        refine q_isi (ty_I _) (by decide +kernel : kitB "int" "bool" = some false) ?_
        refine ⟨_, rfl, ?_⟩
        exact ⟨G0, (Ext.refl _), S0, congrArg V.bl (by rw [c1, Bool.true_and])⟩
      · skip
        exact ⟨G0, (Ext.refl _), S0, congrArg V.bl (by rw [ne_false c1, Bool.false_and])⟩
    · intro b1 H1 hJ
      obtain ⟨G1, e1, S1, rfl⟩ := hJ
      have E1 := E0.trans e1
      cases hm0
      exact q G1 H1 E1 S1
end
end Mr

set_option Elab.async false
set_option linter.all false
set_option maxRecDepth 100000
set_option maxHeartbeats 4000000
namespace Mr
open PySem PySem.Spec PyProof.Rows L2
section
variable {P : Program} {w : World} {K : PySem.W.Frag} {mg : Str → Option Value} {base : Heap}
theorem sc_law_draw : FnScope ["_law_bag_here", "_law_many", "_law_digit"] ["_law_bag_here", "_law_many"] (defScope s_law_draw) := ⟨rfl, rfl, rfl, by decide +kernel, rfl, by decide +kernel, by decide +kernel⟩
theorem ok_law_draw (T : Tx K mg) : FnOk P w K mg base CX0 1 (He.fAd K ("_law_draw", none)) T.fd_law_draw ["_law_bag_here", "_law_many"] (sp_law_draw K) := by
  refine T.F_law_draw.ok sc_law_draw (fun vs H Q E h => ?_) (fun cdv A outer s H0 vs Q E hr h => ?_)
  · obtain ⟨G, O, a1, w1, bag_here1, many1, rfl, _⟩ := h
    rfl
  · obtain ⟨G0, O, a1, w1, bag_here1, many1, rfl, S0, h1, res, hm, q⟩ := h
    refine ⟨_, PSs.nox (pss_cons (ps_if (pt_cmpR op_gt (pe_ix ix_list (pv 0) pe_int (fun _ _ => rfl)) pe_int (nomark _)) (pss_cons (ps_set (i := 2) sc_law_draw.nd rfl (.inl rfl) (pe_op op_mod (pe_callTy call_int1 (by rfl) T.z_int boot_int (pa_cons (pe_ix ix_list (pv 0) pe_int (fun _ _ => rfl)) pa_nil)) (pv 1)))
      (pss_cons (ps_asg (pe_op op_fdivW (pe_ix ix_list (pv 0) pe_int (fun _ _ => rfl)) (pv 1)) (pg_sub (pv 0) pe_int set_list))
      (pss_one (ps_ret (pv 2))))) pss_nil)
      (pss_cons (ps_asg (pe_op op_add (pe_ix ix_list (pv 0) pe_int (fun _ _ => rfl)) pe_int) (pg_sub (pv 0) pe_int set_list))
      (pss_cons (ps_asg (pe_op op_mod (pe_callTy call_int1 (by rfl) T.z_int boot_int (pa_cons (pe_op op_add (pe_op op_add (pe_op op_mul (pe_ix ix_list (pv 0) pe_int (fun _ _ => rfl)) pe_int) (pe_op op_mul pe_int (pe_ix ix_list (pv 0) pe_int (fun _ _ => rfl)))) pe_int) pa_nil)) pe_int) (pg_sub (pv 0) pe_int set_list))
      (pss_one (ps_ret (pe_op op_mod (pe_op op_fdivW (pe_callTy call_int1 (by rfl) T.z_int boot_int (pa_cons (pe_op op_mod (pe_callTy call_int1 (by rfl) T.z_int boot_int (pa_cons (pe_op op_add (pe_op op_mul (pe_ix ix_list (pv 0) pe_int (fun _ _ => rfl)) pe_int) (pe_op op_mul pe_int (pe_ix ix_list (pv 0) pe_int (fun _ _ => rfl)))) pa_nil)) pe_int) pa_nil)) pe_int) (pv 1))))))), ?_⟩
    have E0 := Ext.refl G0
    have hm0 : (Option.bind (getM bag_here1 (0 : Int)) fun x1 =>
  if (decide (x1 > (0 : Int))) then (Option.bind (getM bag_here1 (0 : Int)) fun x2 =>
  Option.bind (modM x2 many1) fun x3 =>
  Option.bind (getM bag_here1 (0 : Int)) fun x4 =>
  Option.bind (fdivM x4 many1) fun x5 =>
  Option.bind (setM bag_here1 (0 : Int) x5) fun bag_here2 =>
  some (x3, bag_here2))
  else (Option.bind (getM bag_here1 (2 : Int)) fun x6 =>
  Option.bind (setM bag_here1 (2 : Int) (x6 + (1 : Int))) fun bag_here3 =>
  Option.bind (getM bag_here3 (1 : Int)) fun x7 =>
  Option.bind (getM bag_here3 (2 : Int)) fun x8 =>
  Option.bind (setM bag_here3 (1 : Int) ((((x7 * (48271 : Int)) + ((11 : Int) * x8)) + (7 : Int)) % (2147483647 : Int))) fun bag_here4 =>
  Option.bind (getM bag_here4 (1 : Int)) fun x9 =>
  Option.bind (getM bag_here4 (2 : Int)) fun x10 =>
  Option.bind (modM ((((x9 * (69621 : Int)) + ((4099 : Int) * x10)) % (2147483629 : Int)) / (128 : Int)) many1) fun x11 =>
  some (x11, bag_here4))) = some res := hm
    refine gS_IfS ?_
    refine gTest ?_
    refine gOp ?_
    refine gOp ?_
    refine gV rfl ?_
    refine gC ?_
    obtain ⟨x1, hq1, hm1⟩ := bindS hm0
    refine q_ixO S0 h1 hq1 (fun v1 h2 => ?_)
    obtain rfl := (show v1 = (V.int x1) from h2)
    refine gC ?_
    refine ⟨_, _, rfl, rfl, ?_⟩
    refine ⟨(decide (x1 > (0 : Int))), rfl, ?_⟩
    refine ite2 (fun c1 => ?_) (fun c1 => ?_)
    · skip
      have hm2 := (if_pos c1).symm.trans hm1
      refine gS_AsgN ?_
      refine gOp ?_
      refine gCB ?_
      refine gCons' ?_
      refine gOp ?_
      refine gV rfl ?_
      refine gC ?_
      obtain ⟨x2, hq2, hm3⟩ := bindS hm2
      refine q_ixO S0 h1 hq2 (fun v2 h3 => ?_)
      obtain rfl := (show v2 = (V.int x2) from h3)
      refine gNil' ?_
      refine .inl ⟨_, rfl, ?_⟩
      refine gV rfl ?_
      obtain ⟨x3, hq3, hm4⟩ := bindS hm3
      refine q_mod hq3 ?_
      refine gS_Asg ?_
      refine gOp ?_
      refine gOp ?_
      refine gV rfl ?_
      refine gC ?_
      obtain ⟨x4, hq4, hm5⟩ := bindS hm4
      refine q_ixO S0 h1 hq4 (fun v3 h4 => ?_)
      obtain rfl := (show v3 = (V.int x4) from h4)
      refine gV rfl ?_
      obtain ⟨x5, hq5, hm6⟩ := bindS hm5
      refine q_fdiv hq5 ?_
      refine gSub' ?_
      refine gV rfl ?_
      refine gC ?_
      obtain ⟨bag_here2, hq6, hm7⟩ := bindS hm6
      refine q_setL S0 h1 (show R.rel rInt G0 (V.int x5) x5 from rfl) hq6 (fun H1 w2 S1 h5 => ?_)
      refine gRet ?_
      refine gV rfl ?_
      cases hm7
      exact q G0 H1 w2 E0 S1 h5
    · skip
      have hm8 := (if_neg c1).symm.trans hm1
      refine gNext ?_
      refine gE ?_
      refine gS_Asg ?_
      refine gOp ?_
      refine gOp ?_
      refine gV rfl ?_
      refine gC ?_
      obtain ⟨x6, hq7, hm9⟩ := bindS hm8
      refine q_ixO S0 h1 hq7 (fun v4 h6 => ?_)
      obtain rfl := (show v4 = (V.int x6) from h6)
      refine gC ?_
      refine ⟨_, _, rfl, rfl, ?_⟩
      refine gSub' ?_
      refine gV rfl ?_
      refine gC ?_
      obtain ⟨bag_here3, hq8, hm10⟩ := bindS hm9
      refine q_setL S0 h1 (show R.rel rInt G0 (V.int (x6 + (1 : Int))) (x6 + (1 : Int)) from rfl) hq8 (fun H2 w3 S2 h7 => ?_)
      refine gS_Asg ?_
      refine gOp ?_
      refine gCB ?_
      refine gCons' ?_
      refine gOp ?_
      refine gOp ?_
      refine gOp ?_
      refine gOp ?_
      refine gV rfl ?_
      refine gC ?_
      obtain ⟨x7, hq9, hm11⟩ := bindS hm10
      refine q_ixO S2 h7 hq9 (fun v5 h8 => ?_)
      obtain rfl := (show v5 = (V.int x7) from h8)
      refine gC ?_
      refine ⟨_, _, rfl, rfl, .inr ⟨by decide, by decide⟩, ?_⟩
      refine gOp ?_
      refine gC ?_
      refine gOp ?_
      refine gV rfl ?_
      refine gC ?_
      obtain ⟨x8, hq10, hm12⟩ := bindS hm11
      refine q_ixO S2 h7 hq10 (fun v6 h9 => ?_)
      obtain rfl := (show v6 = (V.int x8) from h9)
      refine ⟨_, _, rfl, rfl, .inl ⟨by decide, by decide⟩, ?_⟩
      refine ⟨_, _, rfl, rfl, ?_⟩
      refine gC ?_
      refine ⟨_, _, rfl, rfl, ?_⟩
      refine gNil' ?_
      refine .inl ⟨_, rfl, ?_⟩
      refine gC ?_
      refine ⟨_, _, rfl, rfl, (by show (0 : Int) < 2147483647; decide), ?_⟩
      refine gSub' ?_
      refine gV rfl ?_
      refine gC ?_
      obtain ⟨bag_here4, hq11, hm13⟩ := bindS hm12
      refine q_setL S2 h7 (show R.rel rInt G0 (V.int ((((x7 * (48271 : Int)) + ((11 : Int) * x8)) + (7 : Int)) % (2147483647 : Int))) ((((x7 * (48271 : Int)) + ((11 : Int) * x8)) + (7 : Int)) % (2147483647 : Int)) from rfl) hq11 (fun H3 w4 S3 h10 => ?_)
      refine gRet ?_
      refine gOp ?_
      refine gOp ?_
      refine gCB ?_
      refine gCons' ?_
      refine gOp ?_
      refine gCB ?_
      refine gCons' ?_
      refine gOp ?_
      refine gOp ?_
      refine gOp ?_
      refine gV rfl ?_
      refine gC ?_
      obtain ⟨x9, hq12, hm14⟩ := bindS hm13
      refine q_ixO S3 h10 hq12 (fun v7 h11 => ?_)
      obtain rfl := (show v7 = (V.int x9) from h11)
      refine gC ?_
      refine ⟨_, _, rfl, rfl, .inr ⟨by decide, by decide⟩, ?_⟩
      refine gOp ?_
      refine gC ?_
      refine gOp ?_
      refine gV rfl ?_
      refine gC ?_
      obtain ⟨x10, hq13, hm15⟩ := bindS hm14
      refine q_ixO S3 h10 hq13 (fun v8 h12 => ?_)
      obtain rfl := (show v8 = (V.int x10) from h12)
      refine ⟨_, _, rfl, rfl, .inl ⟨by decide, by decide⟩, ?_⟩
      refine ⟨_, _, rfl, rfl, ?_⟩
      refine gNil' ?_
      refine .inl ⟨_, rfl, ?_⟩
      refine gC ?_
      refine ⟨_, _, rfl, rfl, (by show (0 : Int) < 2147483629; decide), ?_⟩
      refine gNil' ?_
      refine .inl ⟨_, rfl, ?_⟩
      refine gC ?_
      refine ⟨_, _, rfl, rfl, ⟨by decide, by decide⟩, ?_⟩
      refine gV rfl ?_
      obtain ⟨x11, hq14, hm16⟩ := bindS hm15
      refine q_mod hq14 ?_
      cases hm16
      exact q G0 H3 w4 E0 S3 h10
end
end Mr

set_option Elab.async false
set_option linter.all false
set_option maxRecDepth 100000
set_option maxHeartbeats 4000000
namespace Mr
open PySem PySem.Spec PyProof.Rows L2
section
variable {P : Program} {w : World} {K : PySem.W.Frag} {mg : Str → Option Value} {base : Heap}
theorem sc_law_bag : FnScope ["_law_script", "_law_at", "_law_great", "_law_mixed", "_law_place", "_law_cell"] ["_law_script", "_law_at"] (defScope s_law_bag) := ⟨rfl, rfl, rfl, by decide +kernel, rfl, by decide +kernel, by decide +kernel⟩
theorem ok_law_bag (T : Tx K mg) : FnOk P w K mg base CX0 1 (He.fAd K ("_law_bag", none)) T.fd_law_bag ["_law_script", "_law_at"] (sp_law_bag K) := by
  refine T.F_law_bag.ok sc_law_bag (fun vs H Q E h => ?_) (fun cdv A outer s H0 vs Q E hr h => ?_)
  · obtain ⟨G, O, v1, script1, at1, rfl, _⟩ := h
    rfl
  · obtain ⟨G0, O, v1, script1, at1, rfl, S0, h1, res, hm, q⟩ := h
    refine ⟨_, PSs.nox (pss_cons (ps_set (i := 2) sc_law_bag.nd rfl (.inl rfl) (pe_cut (pe_ifExp (pt_cmpR op_lt (pv 1) (pe_callB call_lenM (by rfl) T.z_len boot_len (pa_cons (pv 0) pa_nil)) (nomark _)) (pe_callB call_abs (by rfl) T.z_abs boot_abs (pa_cons (pe_callTy call_int1 (by rfl) T.z_int boot_int (pa_cons (pe_ix ix_list (pv 0) (pv 1) (fun _ _ => rfl)) pa_nil)) pa_nil)) pe_int)))
      (pss_cons (ps_set (i := 3) sc_law_bag.nd rfl (.inl rfl) (pe_op op_add pe_int (pe_op op_mul pe_int (pv 1))))
      (pss_cons (ps_cut (ps_for PassesOwn.never rfl (pi_enumQ (by rfl) T.z_enumerate (pa_cons (pe_slice sl_list (pv 0) po_none (po_some pe_int)) pa_nil)) (pg_tup rfl (pgs_cons (pg_name (i := 4) sc_law_bag.nd rfl (.inl rfl)) (pgs_cons (pg_name (i := 5) sc_law_bag.nd rfl (.inl rfl)) pgs_nil)))
      (pss_one (ps_set (i := 3) sc_law_bag.nd rfl (.inl rfl) (pe_op op_mod (pe_callTy call_int1 (by rfl) T.z_int boot_int (pa_cons (pe_op op_add (pe_op op_add (pe_op op_mul (pv 3) pe_int) (pe_op op_mod (pe_callTy call_int1 (by rfl) T.z_int boot_int (pa_cons (pv 5) pa_nil)) pe_int)) (pe_op op_mul pe_int (pv 4))) pa_nil)) pe_int)))))
      (pss_one (ps_ret (pe_lst (pa_cons (pe_cut (pe_ifExp (pt_cmpR op_ge (pv 2) (pe_op op_pow pe_int pe_int) (nomark _)) (pv 2) pe_int)) (pa_cons (pv 3) (pa_cons pe_int pa_nil))))))))), ?_⟩
    have E0 := Ext.refl G0
    have hm0 : (Option.bind (if (decide (at1 < (script1.length : Int))) then (Option.bind (getM script1 at1) fun x1 =>
  some (if x1 < 0 then -x1 else x1)) else (some (0 : Int))) fun x2 =>
  Option.bind (folM (m_law_bag_b1) (enumM (cutM script1 none (some (63 : Int)))) ((1009 : Int) + ((77 : Int) * at1))) fun mixed1 =>
  some ([(if (decide (x2 ≥ ((10 : Int) ^ (18 : Int).toNat))) then x2 else (0 : Int)), mixed1, (0 : Int)] : List Int)) = some res := hm
    refine gS_AsgN ?_
    obtain ⟨x2, hq2, hm2⟩ := bindS hm0
    refine gCE (fun (v : V) (H : Hp) => ∃ (G : Hp), Ext G0 G ∧ Sub G (O) H ∧ v = (V.int x2)) ?_ ?_
    · skip
      refine gIf ?_
      refine gTest ?_
      refine gOp ?_
      refine gV rfl ?_
      refine gCB ?_
      refine gCons' ?_
      refine gV rfl ?_
      refine gNil' ?_
      refine q_lenL (y := V.non) S0 h1 ?_
      refine ⟨_, _, rfl, rfl, ?_⟩
      refine ⟨(decide (at1 < (script1.length : Int))), rfl, ?_⟩
      refine ite2 (fun c1 => ?_) (fun c1 => ?_)
      · skip
        have hm3 := (if_pos c1).symm.trans hq2
        refine gCB ?_
        refine gCons' ?_
        refine gCB ?_
        refine gCons' ?_
        refine gOp ?_
        refine gV rfl ?_
        refine gV rfl ?_
        obtain ⟨x3, hq3, hm4⟩ := bindS hm3
        refine q_ixL S0 h1 hq3 (fun v3 h3 => ?_)
        obtain rfl := (show v3 = (V.int x3) from h3)
        refine gNil' ?_
        refine .inl ⟨_, rfl, ?_⟩
        refine gNil' ?_
        refine ⟨_, rfl, ?_⟩
        cases hm4
        exact ⟨G0, (Ext.refl _), S0, rfl⟩
      · skip
        have hm5 := (if_neg c1).symm.trans hq2
        refine gC ?_
        cases hm5
        exact ⟨G0, (Ext.refl _), S0, rfl⟩
    · intro v4 H1 hJ
      obtain ⟨G1, e1, S1, rfl⟩ := hJ
      have h5 := R.up e1 h1
      have E1 := E0.trans e1
      refine gS_AsgN ?_
      refine gOp ?_
      refine gC ?_
      refine gOp ?_
      refine gC ?_
      refine gV rfl ?_
      refine ⟨_, _, rfl, rfl, .inl ⟨by decide, by decide⟩, ?_⟩
      refine ⟨_, _, rfl, rfl, ?_⟩
      obtain ⟨mixed1, hl1, hm6⟩ := bindS hm2
      refine gS_CS (fun (σ : L2.St) (H : Hp) => ∃ (G : Hp) (y1 : Option V) (y2 : Option V), Ext G1 G ∧ Sub G (O) H ∧ σ = [some v1, some (V.int at1), some (V.int x2), some (V.int mixed1), y1, y2]) ?_ ?_
      · skip
        refine gFor ?_
        refine gIE ?_
        refine gCons' ?_
        refine gSl ?_
        refine gV rfl ?_
        refine gNoPart ?_
        refine gPart ?_
        refine gC ?_
        refine ⟨_, rfl, ?_⟩
        refine q_slL S1 h5 (fun v5 G2 H2 e2 S2 h6 => ?_)
        have h7 := R.up e2 h5
        have E2 := E1.trans e2
        refine gNil' ?_
        refine lp_EQ (r := rInt) S2 (rL_Q h6) (fol_for Empty hl1) (fun (s : Int) (σ : L2.St) (H : Hp) => ∃ (G : Hp) (y1 : Option V) (y2 : Option V), Ext G2 G ∧ Sub G (O) H ∧ σ = [some v1, some (V.int at1), some (V.int x2), some (V.int s), y1, y2]) ⟨G2, _, _, (Ext.refl _), S2, rfl⟩ ?_ ?_ ?_
        · intro s σ H hI
          obtain ⟨G, k1, k2, ie, iS, _⟩ := hI
          exact ie.trans iS.ext
        · intro i1 x4 mixed2 b1 hb1 hr1 v6 σ1 H3 H4 hI1 hS1 h8
          obtain ⟨s2, hb2, hb3⟩ := goF_some hb1
          subst hb3
          obtain ⟨G3, y3, y4, e3, S3, rfl⟩ := hI1
          have h9 := R.up e3 h7
          have h10 := R.up e3 h6
          have E3 := E2.trans e3
          have S4 := hS1 _ _ S3
          generalize ((i1 : Nat) : Int) = k3 at hb2 ⊢
          obtain rfl := (show v6 = (V.int x4) from h8)
          have hm7 : (some ((((mixed2 * (16807 : Int)) + (x4 % (2147483629 : Int))) + ((13 : Int) * k3)) % (2147483647 : Int))) = some s2 := hb2
          refine gAsgN ?_
          refine gOp ?_
          refine gCB ?_
          refine gCons' ?_
          refine gOp ?_
          refine gOp ?_
          refine gOp ?_
          refine gV rfl ?_
          refine gC ?_
          refine ⟨_, _, rfl, rfl, .inr ⟨by decide, by decide⟩, ?_⟩
          refine gOp ?_
          refine gCB ?_
          refine gCons' ?_
          refine gV rfl ?_
          refine gNil' ?_
          refine .inl ⟨_, rfl, ?_⟩
          refine gC ?_
          refine ⟨_, _, rfl, rfl, (by show (0 : Int) < 2147483629; decide), ?_⟩
          refine ⟨_, _, rfl, rfl, ?_⟩
          refine gOp ?_
          refine gC ?_
          refine gV rfl ?_
          refine ⟨_, _, rfl, rfl, .inl ⟨by decide, by decide⟩, ?_⟩
          refine ⟨_, _, rfl, rfl, ?_⟩
          refine gNil' ?_
          refine .inl ⟨_, rfl, ?_⟩
          refine gC ?_
          refine ⟨_, _, rfl, rfl, (by show (0 : Int) < 2147483647; decide), ?_⟩
          cases hm7
          exact ⟨_, ⟨G3, _, _, e3, S4, rfl⟩, hr1⟩
        · intro s σ H h1 h2
          cases h1
          obtain ⟨G, k1, k2, ie, irest⟩ := h2
          exact ⟨G, k1, k2, (e2.trans ie), irest⟩
      · intro σ2 H5 hJ1
        obtain ⟨G4, y5, y6, e4, S5, rfl⟩ := hJ1
        have h11 := R.up e4 h5
        have E4 := E1.trans e4
        refine gRet ?_
        refine gLst ?_
        refine gCons' ?_
        refine gCE (fun (v : V) (H : Hp) => ∃ (G : Hp), Ext G4 G ∧ Sub G (O) H ∧ v = (V.int (if (decide (x2 ≥ ((10 : Int) ^ (18 : Int).toNat))) then x2 else (0 : Int)))) ?_ ?_
        · skip
          refine gIf ?_
          refine gTest ?_
          refine gOp ?_
          refine gV rfl ?_
          refine gOp ?_
          refine gC ?_
          refine gC ?_
          refine ⟨_, _, rfl, rfl, ⟨by decide, by decide, by decide⟩, ?_⟩
          refine ⟨_, _, rfl, rfl, ?_⟩
          refine ⟨(decide (x2 ≥ ((10 : Int) ^ (18 : Int).toNat))), rfl, ?_⟩
          refine ite2 (fun c2 => ?_) (fun c2 => ?_)
          · skip
            refine gV rfl ?_
            exact ⟨G4, (Ext.refl _), S5, congrArg V.int (if_pos c2).symm⟩
          · skip
            refine gC ?_
            exact ⟨G4, (Ext.refl _), S5, congrArg V.int (if_neg c2).symm⟩
        · intro v7 H6 hJ
          obtain ⟨G5, e5, S6, rfl⟩ := hJ
          have h13 := R.up e5 h11
          have E5 := E4.trans e5
          refine gCons' ?_
          refine gV rfl ?_
          refine gCons' ?_
          refine gC ?_
          refine gNil' ?_
          have h14 : Al rInt G5 [(V.int (if (decide (x2 ≥ ((10 : Int) ^ (18 : Int).toNat))) then x2 else (0 : Int))), (V.int mixed1), (V.int (0 : Int))] [(if (decide (x2 ≥ ((10 : Int) ^ (18 : Int).toNat))) then x2 else (0 : Int)), mixed1, (0 : Int)] := ⟨rfl, rfl, rfl, True.intro⟩
          refine q_lst S6 h14 (by show 3 ≤ 100000; decide) (fun a1 H7 w1 S7 h15 => ?_)
          cases hm6
          exact q a1 w1 G5 H7 E5 S7 h15
end
end Mr

set_option Elab.async false
set_option linter.all false
set_option maxRecDepth 100000
set_option maxHeartbeats 4000000
namespace Mr
open PySem PySem.Spec PyProof.Rows L2
section
variable {P : Program} {w : World} {K : PySem.W.Frag} {mg : Str → Option Value} {base : Heap}
theorem sc_pen_after : FnScope ["measure", "pen", "width"] ["measure", "pen", "width"] (defScope s_pen_after) := ⟨rfl, rfl, rfl, by decide +kernel, rfl, by decide +kernel, by decide +kernel⟩
theorem ok_pen_after (T : Tx K mg) : FnOk P w K mg base CX0 1 (He.fAd K ("pen_after", none)) T.fd_pen_after ["measure", "pen", "width"] (sp_pen_after K) := by
  refine T.F_pen_after.ok sc_pen_after (fun vs H Q E h => ?_) (fun cdv A outer s H0 vs Q E hr h => ?_)
  · obtain ⟨G, O, measure1, pen1, width1, rfl, _⟩ := h
    rfl
  · obtain ⟨G0, O, measure1, pen1, width1, rfl, S0, res, hm, q⟩ := h
    refine ⟨_, PSs.nox (pss_cons (ps_if (pt_cut (PW.pt (pw_and (pt_cmpR op_gt (pv 1) pe_int (nomark _)) (pw_and1 (pt_cmpR op_le (pe_op op_add (pe_op op_add (pv 1) pe_int) (pv 2)) (pv 0) (nomark _)))))) (pss_one (ps_ret (pe_tup (pa_cons (pe_op op_add (pe_op op_add (pv 1) pe_int) (pv 2)) (pa_cons pe_bl pa_nil))))) pss_nil)
      (pss_one (ps_ret (pe_tup (pa_cons (pe_callB (call_min2 rfl) (by rfl) T.z_min boot_min (pa_cons (pv 2) (pa_cons (pe_op op_add (pv 0) pe_int) pa_nil))) (pa_cons pe_bl pa_nil)))))), ?_⟩
    have E0 := Ext.refl G0
    have hm0 : (if ((decide (pen1 > (0 : Int))) && (decide (((pen1 + (1 : Int)) + width1) ≤ measure1))) then (some (((pen1 + (1 : Int)) + width1), false))
  else (some ((if (measure1 + (1 : Int)) < width1 then (measure1 + (1 : Int)) else width1), true))) = some res := hm
    refine gS_IfS ?_
    refine gCT (fun (b : Bool) (H : Hp) => ∃ G : Hp, Ext G0 G ∧ Sub G (O) H ∧ b = ((decide (pen1 > (0 : Int))) && (decide (((pen1 + (1 : Int)) + width1) ≤ measure1)))) ?_ ?_
    · skip
      refine gAnd ?_
      refine gTest ?_
      refine gOp ?_
      refine gV rfl ?_
      refine gC ?_
      refine ⟨_, _, rfl, rfl, ?_⟩
      refine ⟨(decide (pen1 > (0 : Int))), rfl, ?_⟩
      refine ite2 (fun c1 => ?_) (fun c1 => ?_)
      · skip
        refine gTest ?_
        refine gOp ?_
        refine gOp ?_
        refine gOp ?_
        refine gV rfl ?_
        refine gC ?_
        refine ⟨_, _, rfl, rfl, ?_⟩
        refine gV rfl ?_
        refine ⟨_, _, rfl, rfl, ?_⟩
        refine gV rfl ?_
        refine ⟨_, _, rfl, rfl, ?_⟩
        refine ⟨(decide (((pen1 + (1 : Int)) + width1) ≤ measure1)), rfl, ?_⟩
        exact ⟨G0, (Ext.refl _), S0, (by rw [c1, Bool.true_and])⟩
      · skip
        exact ⟨G0, (Ext.refl _), S0, (by rw [ne_false c1, Bool.false_and])⟩
    · intro b1 H1 hJ
      obtain ⟨G1, e1, S1, rfl⟩ := hJ
      have E1 := E0.trans e1
      refine ite2 (fun c2 => ?_) (fun c2 => ?_)
      · skip
        have hm1 := (if_pos c2).symm.trans hm0
        refine gRet ?_
        refine gTup' ?_
        refine gCons' ?_
        refine gOp ?_
        refine gOp ?_
        refine gV rfl ?_
        refine gC ?_
        refine ⟨_, _, rfl, rfl, ?_⟩
        refine gV rfl ?_
        refine ⟨_, _, rfl, rfl, ?_⟩
        refine gCons' ?_
        refine gC ?_
        refine gNil' ?_
        refine q_tup2 (K := K) S1 (show R.rel rInt G1 (V.int ((pen1 + (1 : Int)) + width1)) ((pen1 + (1 : Int)) + width1) from rfl) (show R.rel rBool G1 (V.bl false) false from rfl) (fun v1 G2 H2 e2 S2 h1 => ?_)
        have E2 := E1.trans e2
        cases hm1
        exact q v1 G2 H2 E2 S2 h1
      · skip
        have hm2 := (if_neg c2).symm.trans hm0
        refine gNext ?_
        refine gE ?_
        refine gRet ?_
        refine gTup' ?_
        refine gCons' ?_
        refine gCB ?_
        refine gCons' ?_
        refine gV rfl ?_
        refine gCons' ?_
        refine gOp ?_
        refine gV rfl ?_
        refine gC ?_
        refine ⟨_, _, rfl, rfl, ?_⟩
        refine gNil' ?_
        refine ⟨_, _, rfl, ?_⟩
        refine gCons' ?_
        refine gC ?_
        refine gNil' ?_
        refine q_tup2 (K := K) S1 (show R.rel rInt G1 (V.int (if (measure1 + (1 : Int)) < width1 then (measure1 + (1 : Int)) else width1)) (if (measure1 + (1 : Int)) < width1 then (measure1 + (1 : Int)) else width1) from rfl) (show R.rel rBool G1 (V.bl true) true from rfl) (fun v2 G3 H3 e3 S3 h2 => ?_)
        have E3 := E1.trans e3
        cases hm2
        exact q v2 G3 H3 E3 S3 h2
end
end Mr

set_option Elab.async false
set_option linter.all false
set_option maxRecDepth 100000
set_option maxHeartbeats 4000000
namespace Mr
open PySem PySem.Spec PyProof.Rows L2
section
variable {P : Program} {w : World} {K : PySem.W.Frag} {mg : Str → Option Value} {base : Heap}
theorem sc_law_pair_right : FnScope ["_law_pair", "_law_place", "_law_column"] ["_law_pair", "_law_place", "_law_column"] (defScope s_law_pair_right) := ⟨rfl, rfl, rfl, by decide +kernel, rfl, by decide +kernel, by decide +kernel⟩
theorem ok_law_pair_right (T : Tx K mg) : FnOk P w K mg base CX0 2 (He.fAd K ("_law_pair_right", none)) T.fd_law_pair_right ["_law_pair", "_law_place", "_law_column"] (sp_law_pair_right K) := by
  have G_law_number := ok_law_number (P := P) (w := w) (base := base) T
  refine T.F_law_pair_right.ok sc_law_pair_right (fun vs H Q E h => ?_) (fun cdv A outer s H0 vs Q E hr h => ?_)
  · obtain ⟨G, O, v1, pair1, place1, column1, rfl, _⟩ := h
    rfl
  · obtain ⟨G0, O, v1, pair1, place1, column1, rfl, S0, h1, res, hm, q⟩ := h
    refine ⟨_, PSs.nox (pss_cons (ps_if (pt_cut (PW.pt (pw_or (pt_not (pt_val (pe_callB call_isi (by rfl) T.z_isinstance boot_isinstance (pa_cons (pv 0) (pa_cons (pe_bltn (v := .ty "tuple") (by rfl) T.z_tuple boot_tuple rfl) pa_nil))))) (pw_or1 (pt_cmpR op_neI (pe_callB call_lenM (by rfl) T.z_len boot_len (pa_cons (pv 0) pa_nil)) pe_int (nomark _)))))) (pss_one (ps_ret pe_bl)) pss_nil)
      (pss_one (ps_ret (pe_cut (pe_and (pe_call G_law_number (hr.mono (by decide)) (by rfl) T.g_law_number T.F_law_number.kp T.b_law_number .nil pass0 (pa_cons (pe_ix ix_tup (pv 0) pe_int (fun _ _ => rfl)) pa_nil)) (pe_and (pe_call G_law_number (hr.mono (by decide)) (by rfl) T.g_law_number T.F_law_number.kp T.b_law_number .nil pass0 (pa_cons (pe_ix ix_tup (pv 0) pe_int (fun _ _ => rfl)) pa_nil)) (pe_one (pe_cmpR (op_eqD hr.units) (pv 0) (pe_tup (pa_cons (pv 1) (pa_cons (pv 2) pa_nil))) (nomark _))))))))), ?_⟩
    have E0 := Ext.refl G0
    have hm0 : (if ((!true) || (!decide ((2 : Int) = (2 : Int)))) then (some false)
  else (Option.bind (Option.bind (m_law_number pair1.1) fun r1 =>
  if r1 then (Option.bind (m_law_number pair1.2) fun r2 =>
  if r2 then (some (decide (pair1 = (place1, column1)))) else some false) else some false) fun x1 =>
  some x1)) = some res := hm
    refine gS_IfS ?_
    refine gCT (fun (b : Bool) (H : Hp) => ∃ G : Hp, Ext G0 G ∧ Sub G (O) H ∧ b = ((!true) || (!decide ((2 : Int) = (2 : Int))))) ?_ ?_
    · skip
      refine gOr ?_
      refine gNot ?_
      refine gB ?_
      refine gCB ?_
      refine gCons' ?_
      refine gV rfl ?_
      refine gCons' ?_
      refine gC ?_
      refine gNil' ?_
      refine q_isi (ty_P (R.up S0.ext h1)) (by decide +kernel : kitB "tuple" "tuple" = some true) ?_
      refine ⟨true, rfl, ?_⟩
      refine ite2 (fun c1 => ?_) (fun c1 => ?_)
      · skip
        exact ⟨G0, (Ext.refl _), S0, (by rw [c1, Bool.true_or])⟩
      · skip
        refine gTest ?_
        refine gOp ?_
        refine gCB ?_
        refine gCons' ?_
        refine gV rfl ?_
        refine gNil' ?_
        refine q_lenP S0 h1 ?_
        refine gC ?_
        refine ⟨_, _, rfl, rfl, ?_⟩
        refine ⟨(!decide ((2 : Int) = (2 : Int))), rfl, ?_⟩
        exact ⟨G0, (Ext.refl _), S0, (by rw [ne_false c1, Bool.false_or])⟩
    · intro b1 H1 hJ
      obtain ⟨G1, e1, S1, rfl⟩ := hJ
      have h2 := R.up e1 h1
      have E1 := E0.trans e1
      refine ite2 (fun c2 => ?_) (fun c2 => ?_)
      · skip
        have hm1 := (if_pos c2).symm.trans hm0
        refine gRet ?_
        refine gC ?_
        cases hm1
        exact q G1 H1 E1 S1
      · skip
        have hm2 := (if_neg c2).symm.trans hm0
        refine gNext ?_
        refine gE ?_
        refine gRet ?_
        obtain ⟨x1, hq3, hm5⟩ := bindS hm2
        refine gCE (fun (b : V) (H : Hp) => ∃ G : Hp, Ext G1 G ∧ Sub G (O) H ∧ b = V.bl x1) ?_ ?_
        · skip
          refine gAndV ?_
          refine gCall ?_
          refine gCons' ?_
          refine gOp ?_
          refine gV rfl ?_
          refine gC ?_
          refine q_p0 S1 h2 (fun v5 h9 => ?_)
          obtain rfl := (show v5 = (V.int pair1.1) from h9)
          refine gNil' ?_
          obtain ⟨r3, hq4, hm6⟩ := bindS hq3
          refine ⟨G1, (O), pair1.1, rfl, S1, r3, hq4, fun G5 H5 e5 S5 => ?_⟩
          have h10 := R.up e5 h2
          have E5 := E1.trans e5
          refine ⟨r3, rfl, ?_⟩
          refine ite2 (fun c3 => ?_) (fun c3 => ?_)
          · skip
            have hm7 := (if_pos c3).symm.trans hm6
            refine gAndV ?_
            refine gCall ?_
            refine gCons' ?_
            refine gOp ?_
            refine gV rfl ?_
            refine gC ?_
            refine q_p1 S5 h10 (fun v6 h11 => ?_)
            obtain rfl := (show v6 = (V.int pair1.2) from h11)
            refine gNil' ?_
            obtain ⟨r4, hq5, hm8⟩ := bindS hm7
            refine ⟨G5, (O), pair1.2, rfl, S5, r4, hq5, fun G6 H6 e6 S6 => ?_⟩
            have h12 := R.up e6 h10
            have E6 := E5.trans e6
            refine ⟨r4, rfl, ?_⟩
            refine ite2 (fun c4 => ?_) (fun c4 => ?_)
            · skip
              have hm9 := (if_pos c4).symm.trans hm8
              refine gOp ?_
              refine gV rfl ?_
              refine gTup' ?_
              refine gCons' ?_
              refine gV rfl ?_
              refine gCons' ?_
              refine gV rfl ?_
              refine gNil' ?_
              refine q_tup2 (K := K) S6 (show R.rel rInt G6 (V.int place1) place1 from rfl) (show R.rel rInt G6 (V.int column1) column1 from rfl) (fun v7 G7 H7 e7 S7 h13 => ?_)
              have h14 := R.up e7 h12
              have E7 := E6.trans e7
              refine q_eqD (dP (dInt (K := K)) (dInt (K := K))) (by show 3 ≤ 64; decide) (R.up S7.ext h14) (R.up S7.ext h13) ((okP okI okI) _) ((okP okI okI) _) ?_
              cases hm9
              exact ⟨G7, ((e5.trans e6).trans e7), S7, rfl⟩
            · skip
              have hm10 := (if_neg c4).symm.trans hm8
              cases hm10
              exact ⟨G6, (e5.trans e6), S6, rfl⟩
          · skip
            have hm11 := (if_neg c3).symm.trans hm6
            cases hm11
            exact ⟨G5, e5, S5, rfl⟩
        · intro b2 H8 hJ
          obtain ⟨G8, e8, S8, rfl⟩ := hJ
          have h15 := R.up e8 h2
          have E8 := E1.trans e8
          cases hm5
          exact q G8 H8 E8 S8
end
end Mr

set_option Elab.async false
set_option linter.all false
set_option maxRecDepth 100000
set_option maxHeartbeats 4000000
namespace Mr
open PySem PySem.Spec PyProof.Rows L2
section
variable {P : Program} {w : World} {K : PySem.W.Frag} {mg : Str → Option Value} {base : Heap}
theorem sc_law_pen_right : FnScope ["_law_told", "_law_pen", "_law_begins"] ["_law_told", "_law_pen", "_law_begins"] (defScope s_law_pen_right) := ⟨rfl, rfl, rfl, by decide +kernel, rfl, by decide +kernel, by decide +kernel⟩
theorem ok_law_pen_right (T : Tx K mg) : FnOk P w K mg base CX0 2 (He.fAd K ("_law_pen_right", none)) T.fd_law_pen_right ["_law_told", "_law_pen", "_law_begins"] (sp_law_pen_right K) := by
  have G_law_number := ok_law_number (P := P) (w := w) (base := base) T
  refine T.F_law_pen_right.ok sc_law_pen_right (fun vs H Q E h => ?_) (fun cdv A outer s H0 vs Q E hr h => ?_)
  · obtain ⟨G, O, v1, told1, pen1, begins1, rfl, _⟩ := h
    rfl
  · obtain ⟨G0, O, v1, told1, pen1, begins1, rfl, S0, h1, res, hm, q⟩ := h
    refine ⟨_, PSs.nox (pss_cons (ps_if (pt_cut (PW.pt (pw_or (pt_not (pt_val (pe_callB call_isi (by rfl) T.z_isinstance boot_isinstance (pa_cons (pv 0) (pa_cons (pe_bltn (v := .ty "tuple") (by rfl) T.z_tuple boot_tuple rfl) pa_nil))))) (pw_or1 (pt_cmpR op_neI (pe_callB call_lenM (by rfl) T.z_len boot_len (pa_cons (pv 0) pa_nil)) pe_int (nomark _)))))) (pss_one (ps_ret pe_bl)) pss_nil)
      (pss_one (ps_ret (pe_cut (pe_and (pe_call G_law_number (hr.mono (by decide)) (by rfl) T.g_law_number T.F_law_number.kp T.b_law_number .nil pass0 (pa_cons (pe_ix ix_tup (pv 0) pe_int (fun _ _ => rfl)) pa_nil)) (pe_and (pe_callB call_isi (by rfl) T.z_isinstance boot_isinstance (pa_cons (pe_ix ix_tup (pv 0) pe_int (fun _ _ => rfl)) (pa_cons (pe_bltn (v := .ty "bool") (by rfl) T.z_bool boot_bool rfl) pa_nil))) (pe_one (pe_cmpR (op_eqD hr.units) (pv 0) (pe_tup (pa_cons (pv 1) (pa_cons (pv 2) pa_nil))) (nomark _))))))))), ?_⟩
    have E0 := Ext.refl G0
    have hm0 : (if ((!true) || (!decide ((2 : Int) = (2 : Int)))) then (some false)
  else (Option.bind (Option.bind (m_law_number told1.1) fun r1 =>
  if r1 then (if true then (some (decide (told1 = (pen1, begins1)))) else some false) else some false) fun x1 =>
  some x1)) = some res := hm
    refine gS_IfS ?_
    refine gCT (fun (b : Bool) (H : Hp) => ∃ G : Hp, Ext G0 G ∧ Sub G (O) H ∧ b = ((!true) || (!decide ((2 : Int) = (2 : Int))))) ?_ ?_
    · skip
      refine gOr ?_
      refine gNot ?_
      refine gB ?_
      refine gCB ?_
      refine gCons' ?_
      refine gV rfl ?_
      refine gCons' ?_
      refine gC ?_
      refine gNil' ?_
      refine q_isi (ty_P (R.up S0.ext h1)) (by decide +kernel : kitB "tuple" "tuple" = some true) ?_
      refine ⟨true, rfl, ?_⟩
      refine ite2 (fun c1 => ?_) (fun c1 => ?_)
      · skip
        exact ⟨G0, (Ext.refl _), S0, (by rw [c1, Bool.true_or])⟩
      · skip
        refine gTest ?_
        refine gOp ?_
        refine gCB ?_
        refine gCons' ?_
        refine gV rfl ?_
        refine gNil' ?_
        refine q_lenP S0 h1 ?_
        refine gC ?_
        refine ⟨_, _, rfl, rfl, ?_⟩
        refine ⟨(!decide ((2 : Int) = (2 : Int))), rfl, ?_⟩
        exact ⟨G0, (Ext.refl _), S0, (by rw [ne_false c1, Bool.false_or])⟩
    · intro b1 H1 hJ
      obtain ⟨G1, e1, S1, rfl⟩ := hJ
      have h2 := R.up e1 h1
      have E1 := E0.trans e1
      refine ite2 (fun c2 => ?_) (fun c2 => ?_)
      · skip
        have hm1 := (if_pos c2).symm.trans hm0
        refine gRet ?_
        refine gC ?_
        cases hm1
        exact q G1 H1 E1 S1
      · skip
        have hm2 := (if_neg c2).symm.trans hm0
        refine gNext ?_
        refine gE ?_
        refine gRet ?_
        obtain ⟨x1, hq2, hm4⟩ := bindS hm2
        refine gCE (fun (b : V) (H : Hp) => ∃ G : Hp, Ext G1 G ∧ Sub G (O) H ∧ b = V.bl x1) ?_ ?_
        · skip
          refine gAndV ?_
          refine gCall ?_
          refine gCons' ?_
          refine gOp ?_
          refine gV rfl ?_
          refine gC ?_
          refine q_p0 S1 h2 (fun v5 h8 => ?_)
          obtain rfl := (show v5 = (V.int told1.1) from h8)
          refine gNil' ?_
          obtain ⟨r2, hq3, hm5⟩ := bindS hq2
          refine ⟨G1, (O), told1.1, rfl, S1, r2, hq3, fun G4 H4 e4 S4 => ?_⟩
          have h9 := R.up e4 h2
          have E4 := E1.trans e4
          refine ⟨r2, rfl, ?_⟩
          refine ite2 (fun c3 => ?_) (fun c3 => ?_)
          · skip
            have hm6 := (if_pos c3).symm.trans hm5
            refine gAndV ?_
            refine gCB ?_
            refine gCons' ?_
            refine gOp ?_
            refine gV rfl ?_
            refine gC ?_
            refine q_p1 S4 h9 (fun v6 h10 => ?_)
            obtain rfl := (show v6 = (V.bl told1.2) from h10)
            refine gCons' ?_
            refine gC ?_
            refine gNil' ?_
            refine q_isi (ty_B _) (by decide +kernel : kitB "bool" "bool" = some true) ?_
            refine ⟨true, rfl, ?_⟩
            refine ite2 (fun c4 => ?_) (fun c4 => ?_)
            · skip
              have hm7 := (if_pos c4).symm.trans hm6
              refine gOp ?_
              refine gV rfl ?_
              refine gTup' ?_
              refine gCons' ?_
              refine gV rfl ?_
              refine gCons' ?_
              refine gV rfl ?_
              refine gNil' ?_
              refine q_tup2 (K := K) S4 (show R.rel rInt G4 (V.int pen1) pen1 from rfl) (show R.rel rBool G4 (V.bl begins1) begins1 from rfl) (fun v7 G5 H5 e5 S5 h11 => ?_)
              have h12 := R.up e5 h9
              have E5 := E4.trans e5
              refine q_eqD (dP (dInt (K := K)) (dBool (K := K))) (by show 3 ≤ 64; decide) (R.up S5.ext h12) (R.up S5.ext h11) ((okP okI okB) _) ((okP okI okB) _) ?_
              cases hm7
              exact ⟨G5, (e4.trans e5), S5, rfl⟩
            · skip
              have hm8 := (if_neg c4).symm.trans hm6
              cases hm8
              exact ⟨G4, e4, S4, rfl⟩
          · skip
            have hm9 := (if_neg c3).symm.trans hm5
            cases hm9
            exact ⟨G4, e4, S4, rfl⟩
        · intro b2 H6 hJ
          obtain ⟨G6, e6, S6, rfl⟩ := hJ
          have h13 := R.up e6 h2
          have E6 := E1.trans e6
          cases hm4
          exact q G6 H6 E6 S6
end
end Mr

set_option Elab.async false
set_option linter.all false
set_option maxRecDepth 100000
set_option maxHeartbeats 4000000
namespace Mr
open PySem PySem.Spec PyProof.Rows L2
section
variable {P : Program} {w : World} {K : PySem.W.Frag} {mg : Str → Option Value} {base : Heap}
theorem sc_fill_widths : FnScope ["measure", "widths", "lines", "line", "pen", "place", "wide", "column"] ["measure", "widths"] (defScope s_fill_widths) := ⟨rfl, rfl, rfl, by decide +kernel, rfl, by decide +kernel, by decide +kernel⟩
theorem ok_fill_widths (T : Tx K mg) : FnOk P w K mg base CX0 1 (He.fAd K ("fill_widths", none)) T.fd_fill_widths ["measure", "widths"] (sp_fill_widths K) := by
  refine T.F_fill_widths.ok sc_fill_widths (fun vs H Q E h => ?_) (fun cdv A outer s H0 vs Q E hr h => ?_)
  · obtain ⟨G, O, measure1, v1, widths1, rfl, _⟩ := h
    rfl
  · obtain ⟨G0, O, measure1, v1, widths1, rfl, S0, h1, res, hm, q⟩ := h
    refine ⟨_, PSs.nox (pss_cons (ps_par3 (i := 2) (j := 3) (l := 4) (by rfl) sc_fill_widths.nd rfl rfl rfl (by decide) (by decide) (by decide) rfl rfl rfl (pa_cons (pe_lst pa_nil) (pa_cons (pe_lst pa_nil) (pa_cons pe_int pa_nil))) (by rfl))
      (pss_cons (ps_cut (ps_for PassesOwn.never rfl (pi_enumQ (by rfl) T.z_enumerate (pa_cons (pv 1) pa_nil)) (pg_tup rfl (pgs_cons (pg_name (i := 5) sc_fill_widths.nd rfl (.inl rfl)) (pgs_cons (pg_name (i := 6) sc_fill_widths.nd rfl (.inl rfl)) pgs_nil)))
      (pss_cons (ps_set (i := 7) sc_fill_widths.nd rfl (.inl rfl) (pe_op op_add (pv 4) pe_int))
      (pss_cons (ps_cut (ps_if (pt_cut (PW.pt (pw_and (pt_cmpR (op_neD hr.units) (pv 3) (pe_lst pa_nil) (nomark _)) (pw_and1 (pt_cmpR op_gt (pe_op op_add (pv 7) (pv 6)) (pv 0) (nomark _)))))) (pss_cons (ps_expr (pe_bm PySem.F.plainAttrs_list PySem.F.slot_list_append PySem.F.type_list_append mt_append (pv 2) (pa_cons (pe_callTy call_tupOf (by rfl) T.z_tuple boot_tuple (pa_cons (pv 3) pa_nil)) pa_nil)))
      (pss_one (ps_set (i := 3) sc_fill_widths.nd rfl (.inl rfl) (pe_lst pa_nil)))) pss_nil))
      (pss_cons (ps_cut (ps_if (pt_cmpR (op_eqD hr.units) (pv 3) (pe_lst pa_nil) (nomark _)) (pss_one (ps_set (i := 7) sc_fill_widths.nd rfl (.inl rfl) pe_int)) pss_nil))
      (pss_cons (ps_expr (pe_bm PySem.F.plainAttrs_list PySem.F.slot_list_append PySem.F.type_list_append mt_append (pv 3) (pa_cons (pe_tup (pa_cons (pv 5) (pa_cons (pv 7) pa_nil))) pa_nil)))
      (pss_one (ps_set (i := 4) sc_fill_widths.nd rfl (.inl rfl) (pe_op op_add (pv 7) (pv 6))))))))))
      (pss_cons (ps_cut (ps_if (pt_cmpR (op_neD hr.units) (pv 3) (pe_lst pa_nil) (nomark _)) (pss_one (ps_expr (pe_bm PySem.F.plainAttrs_list PySem.F.slot_list_append PySem.F.type_list_append mt_append (pv 2) (pa_cons (pe_callTy call_tupOf (by rfl) T.z_tuple boot_tuple (pa_cons (pv 3) pa_nil)) pa_nil)))) pss_nil))
      (pss_one (ps_ret (pe_callTy call_tupOf (by rfl) T.z_tuple boot_tuple (pa_cons (pv 2) pa_nil))))))), ?_⟩
    have E0 := Ext.refl G0
    have hm0 : (Option.bind (folM (m_fill_widths_b1 measure1) (enumM widths1) (([] : List (List (Int × Int))), ([] : List (Int × Int)), (0 : Int))) fun (lines1, line1, pen1) =>
  Option.bind (if (!decide (line1 = ([] : (List (Int × Int))))) then (Option.bind (appM lines1 line1) fun lines8 =>
  some lines8)
  else (some lines1)) fun lines7 =>
  some lines7) = some res := hm
    refine gS_Par3 ?_
    refine gCons' ?_
    refine gLst ?_
    refine gNil' ?_
    have h2 : Al (rT K (rP K rInt rInt)) G0 [] [] := True.intro
    refine q_lst S0 h2 (by show 0 ≤ 100000; decide) (fun a1 H1 w1 S1 h3 => ?_)
    refine gCons' ?_
    refine gLst ?_
    refine gNil' ?_
    have h4 : Al (rP K rInt rInt) G0 [] [] := True.intro
    refine q_lst S1 h4 (by show 0 ≤ 100000; decide) (fun a2 H2 w2 S2 h5 => ?_)
    refine gCons' ?_
    refine gC ?_
    refine gNil' ?_
    refine ⟨_, _, _, rfl, ?_⟩
    obtain ⟨⟨lines1, line1, pen1⟩, hl1, hm1⟩ := bindS hm0
    dsimp only at hm1
    refine gS_CS (fun (σ : L2.St) (H : Hp) => ∃ (G : Hp) (w3 : List V) (a3 : Addr) (w4 : List V) (y1 : Option V) (y2 : Option V) (y3 : Option V), Ext G0 G ∧ Sub G ((a1, HO.lst w3) :: (a3, HO.lst w4) :: O) H ∧ σ = [some (V.int measure1), some v1, some (V.ref a1), some (V.ref a3), some (V.int pen1), y1, y2, y3] ∧ Al (rT K (rP K rInt rInt)) G w3 lines1 ∧ Al (rP K rInt rInt) G w4 line1) ?_ ?_
    · skip
      refine gFor ?_
      refine gIE ?_
      refine gCons' ?_
      refine gV rfl ?_
      refine gNil' ?_
      have S3 : Sub G0 ((a1, HO.lst w1) :: (a2, HO.lst w2) :: O) H2 := S2.front 1 rfl rfl
      refine lp_EQ (r := rInt) S2 h1 (fol_for Empty hl1) (fun (s : (List (List (Int × Int))) × (List (Int × Int)) × Int) (σ : L2.St) (H : Hp) => ∃ (G : Hp) (w3 : List V) (a3 : Addr) (w4 : List V) (y1 : Option V) (y2 : Option V) (y3 : Option V), Ext G0 G ∧ Sub G ((a1, HO.lst w3) :: (a3, HO.lst w4) :: O) H ∧ σ = [some (V.int measure1), some v1, some (V.ref a1), some (V.ref a3), some (V.int s.2.2), y1, y2, y3] ∧ Al (rT K (rP K rInt rInt)) G w3 s.1 ∧ Al (rP K rInt rInt) G w4 s.2.1) ⟨G0, w1, a2, w2, _, _, _, (Ext.refl _), S3, rfl, h3, h5⟩ ?_ ?_ ?_
      · intro s σ H hI
        obtain ⟨G, k1, k2, k3, k4, k5, k6, ie, iS, _⟩ := hI
        exact ie.trans iS.ext
      · intro i1 x1 s1 b1 hb1 hr1 v2 σ1 H3 H4 hI1 hS1 h6
        obtain ⟨s2, hb2, hb3⟩ := goF_some hb1
        subst hb3
        obtain ⟨lines2, line2, pen2⟩ := s1
        obtain ⟨G1, w5, a4, w6, y4, y5, y6, e1, S4, rfl, h7, h8⟩ := hI1
        have h9 := R.up e1 h1
        have h10 := R.up e1 h1
        have E1 := E0.trans e1
        have S5 := hS1 _ _ S4
        generalize ((i1 : Nat) : Int) = k7 at hb2 ⊢
        obtain rfl := (show v2 = (V.int x1) from h6)
        have hm2 : (Option.bind (if ((!decide (line2 = ([] : (List (Int × Int))))) && (decide (((pen2 + (1 : Int)) + x1) > measure1))) then (Option.bind (appM lines2 line2) fun lines5 =>
  some (lines5, ([] : List (Int × Int))))
  else (some (lines2, line2))) fun (lines4, line3) =>
  Option.bind (if (decide (line3 = ([] : (List (Int × Int))))) then (some (0 : Int))
  else (some (pen2 + (1 : Int)))) fun column1 =>
  Option.bind (appM line3 (k7, column1)) fun line4 =>
  some (lines4, line4, (column1 + x1))) = some s2 := hb2
        refine gS_AsgN ?_
        refine gOp ?_
        refine gV rfl ?_
        refine gC ?_
        refine ⟨_, _, rfl, rfl, ?_⟩
        obtain ⟨⟨lines4, line3⟩, hq2, hm4⟩ := bindS hm2
        dsimp only at hm4
        refine gS_CS (fun (σ : L2.St) (H : Hp) => ∃ (G : Hp) (w9 : List V) (a6 : Addr) (w10 : List V), Ext G1 G ∧ Sub G ((a1, HO.lst w9) :: (a6, HO.lst w10) :: O) H ∧ σ = [some (V.int measure1), some v1, some (V.ref a1), some (V.ref a6), some (V.int pen2), some (V.int k7), some (V.int x1), some (V.int (pen2 + (1 : Int)))] ∧ Al (rT K (rP K rInt rInt)) G w9 lines4 ∧ Al (rP K rInt rInt) G w10 line3) ?_ ?_
        · skip
          refine gIfS ?_
          refine gCT (fun (b : Bool) (H : Hp) => ∃ G : Hp, Ext G1 G ∧ Sub G ((a1, HO.lst w5) :: (a4, HO.lst w6) :: O) H ∧ b = ((!decide (line2 = ([] : (List (Int × Int))))) && (decide (((pen2 + (1 : Int)) + x1) > measure1)))) ?_ ?_
          · skip
            refine gAnd ?_
            refine gTest ?_
            refine gOp ?_
            refine gV rfl ?_
            refine gLst ?_
            refine gNil' ?_
            refine ⟨sz0, fun p4 np4 => ?_⟩
            have S22 : Sub G1 ((a1, HO.lst w5) :: (a4, HO.lst w6) :: O) (upd H4 p4 (.lst [])) := S5.junk np4
            have S23 : Sub G1 ((a4, HO.lst w6) :: (a1, HO.lst w5) :: O) (upd H4 p4 (.lst [])) := S22.front 1 rfl rfl
            refine q_neD (dL (dP (dInt (K := K)) (dInt (K := K)))) (by show 4 ≤ 64; decide) (rL_own S23 h8) (⟨p4, [], rfl, .inl (.inl upd_same), True.intro⟩ : R.rel (rL K (rP K rInt rInt)) (upd H4 p4 (.lst [])) (V.ref p4) []) ((okL (okP okI okI)) _) ((okL (okP okI okI)) _) ?_
            refine ⟨(!decide (line2 = ([] : (List (Int × Int))))), rfl, ?_⟩
            refine ite2 (fun c2 => ?_) (fun c2 => ?_)
            · skip
              refine gTest ?_
              refine gOp ?_
              refine gOp ?_
              refine gV rfl ?_
              refine gV rfl ?_
              refine ⟨_, _, rfl, rfl, ?_⟩
              refine gV rfl ?_
              refine ⟨_, _, rfl, rfl, ?_⟩
              refine ⟨(decide (((pen2 + (1 : Int)) + x1) > measure1)), rfl, ?_⟩
              have S24 : Sub G1 ((a1, HO.lst w5) :: (a4, HO.lst w6) :: O) (upd H4 p4 (.lst [])) := S23.front 1 rfl rfl
              exact ⟨G1, (Ext.refl _), S24, (by rw [c2, Bool.true_and])⟩
            · skip
              have S25 : Sub G1 ((a1, HO.lst w5) :: (a4, HO.lst w6) :: O) (upd H4 p4 (.lst [])) := S23.front 1 rfl rfl
              exact ⟨G1, (Ext.refl _), S25, (by rw [ne_false c2, Bool.false_and])⟩
          · intro b3 H9 hJ
            obtain ⟨G4, e4, S26, rfl⟩ := hJ
            have h23 := R.up e4 h9
            have h24 := Al.up e4 h7
            have h25 := Al.up e4 h8
            have h26 := R.up e4 h10
            have E4 := E1.trans e4
            refine ite2 (fun c3 => ?_) (fun c3 => ?_)
            · skip
              have hm5 := (if_pos c3).symm.trans hq2
              refine gS_Drop ?_
              refine gBM ?_
              refine gV rfl ?_
              refine ⟨.inl ⟨rfl, _, .inl (.inl S26.head)⟩, ?_⟩
              refine gCons' ?_
              refine gCB ?_
              refine gCons' ?_
              refine gV rfl ?_
              refine gNil' ?_
              have S27 : Sub G4 ((a4, HO.lst w6) :: (a1, HO.lst w5) :: O) H9 := S26.front 1 rfl rfl
              refine q_tupO S27 h25 (fun v4 G5 H10 e5 S28 h27 => ?_)
              have h28 := R.up e5 h23
              have h29 := Al.up e5 h24
              have h30 := Al.up e5 h25
              have h31 := R.up e5 h26
              have E5 := E4.trans e5
              refine gNil' ?_
              obtain ⟨lines5, hq3, hm6⟩ := bindS hm5
              have S29 : Sub G5 ((a1, HO.lst w5) :: (a4, HO.lst w6) :: O) H10 := S28.front 1 rfl rfl
              refine q_app S29 h29 (show R.rel (rT K (rP K rInt rInt)) G5 v4 line2 from h27) hq3 (fun H11 w11 S30 h32 => ?_)
              refine gAsgN ?_
              refine gLst ?_
              refine gNil' ?_
              have h33 : Al (rP K rInt rInt) G5 [] [] := True.intro
              refine q_lst S30 h33 (by show 0 ≤ 100000; decide) (fun a7 H12 w12 S31 h34 => ?_)
              have S32 : Sub G5 ((a4, HO.lst w6) :: (a7, HO.lst w12) :: (a1, HO.lst w11) :: O) H12 := S31.front 2 rfl rfl
              have S33 := S32.tail
              have S34 : Sub G5 ((a1, HO.lst w11) :: (a7, HO.lst w12) :: O) H12 := S33.front 1 rfl rfl
              cases hm6
              exact ⟨G5, w11, a7, w12, (e4.trans e5), S34, rfl, h32, h34⟩
            · skip
              have hm7 := (if_neg c3).symm.trans hq2
              refine gNext ?_
              cases hm7
              exact ⟨G4, w5, a4, w6, e4, S26, rfl, h24, h25⟩
        · intro σ2 H13 hJ1
          obtain ⟨G6, w13, a8, w14, e6, S35, rfl, h35, h36⟩ := hJ1
          have h37 := R.up e6 h9
          have h38 := R.up e6 h10
          have E6 := E1.trans e6
          obtain ⟨column1, hq4, hm8⟩ := bindS hm4
          refine gS_CS (fun (σ : L2.St) (H : Hp) => ∃ (G : Hp), Ext G6 G ∧ Sub G ((a1, HO.lst w13) :: (a8, HO.lst w14) :: O) H ∧ σ = [some (V.int measure1), some v1, some (V.ref a1), some (V.ref a8), some (V.int pen2), some (V.int k7), some (V.int x1), some (V.int column1)]) ?_ ?_
          · skip
            refine gIfS ?_
            refine gTest ?_
            refine gOp ?_
            refine gV rfl ?_
            refine gLst ?_
            refine gNil' ?_
            refine ⟨sz0, fun p6 np6 => ?_⟩
            have S38 : Sub G6 ((a1, HO.lst w13) :: (a8, HO.lst w14) :: O) (upd H13 p6 (.lst [])) := S35.junk np6
            have S39 : Sub G6 ((a8, HO.lst w14) :: (a1, HO.lst w13) :: O) (upd H13 p6 (.lst [])) := S38.front 1 rfl rfl
            refine q_eqD (dL (dP (dInt (K := K)) (dInt (K := K)))) (by show 4 ≤ 64; decide) (rL_own S39 h36) (⟨p6, [], rfl, .inl (.inl upd_same), True.intro⟩ : R.rel (rL K (rP K rInt rInt)) (upd H13 p6 (.lst [])) (V.ref p6) []) ((okL (okP okI okI)) _) ((okL (okP okI okI)) _) ?_
            refine ⟨(decide (line3 = ([] : (List (Int × Int))))), rfl, ?_⟩
            refine ite2 (fun c4 => ?_) (fun c4 => ?_)
            · skip
              have hm9 := (if_pos c4).symm.trans hq4
              refine gAsgN ?_
              refine gC ?_
              have S40 : Sub G6 ((a1, HO.lst w13) :: (a8, HO.lst w14) :: O) (upd H13 p6 (.lst [])) := S39.front 1 rfl rfl
              cases hm9
              exact ⟨G6, (Ext.refl _), S40, rfl⟩
            · skip
              have hm10 := (if_neg c4).symm.trans hq4
              refine gNext ?_
              have S41 : Sub G6 ((a1, HO.lst w13) :: (a8, HO.lst w14) :: O) (upd H13 p6 (.lst [])) := S39.front 1 rfl rfl
              cases hm10
              exact ⟨G6, (Ext.refl _), S41, rfl⟩
          · intro σ3 H14 hJ2
            obtain ⟨G7, e7, S42, rfl⟩ := hJ2
            have h39 := R.up e7 h37
            have h40 := Al.up e7 h35
            have h41 := Al.up e7 h36
            have h42 := R.up e7 h38
            have E7 := E6.trans e7
            refine gS_Drop ?_
            refine gBM ?_
            refine gV rfl ?_
            have S43 : Sub G7 ((a8, HO.lst w14) :: (a1, HO.lst w13) :: O) H14 := S42.front 1 rfl rfl
            refine ⟨.inl ⟨rfl, _, .inl (.inl S43.head)⟩, ?_⟩
            refine gCons' ?_
            refine gTup' ?_
            refine gCons' ?_
            refine gV rfl ?_
            refine gCons' ?_
            refine gV rfl ?_
            refine gNil' ?_
            refine q_tup2 (K := K) S43 (show R.rel rInt G7 (V.int k7) k7 from rfl) (show R.rel rInt G7 (V.int column1) column1 from rfl) (fun v5 G8 H15 e8 S44 h43 => ?_)
            have h44 := R.up e8 h39
            have h45 := Al.up e8 h40
            have h46 := Al.up e8 h41
            have h47 := R.up e8 h42
            have E8 := E7.trans e8
            refine gNil' ?_
            obtain ⟨line4, hq5, hm11⟩ := bindS hm8
            refine q_app S44 h46 (show R.rel (rP K rInt rInt) G8 v5 (k7, column1) from h43) hq5 (fun H16 w15 S45 h48 => ?_)
            refine gAsgN ?_
            refine gOp ?_
            refine gV rfl ?_
            refine gV rfl ?_
            refine ⟨_, _, rfl, rfl, ?_⟩
            have S46 : Sub G8 ((a1, HO.lst w13) :: (a8, HO.lst w15) :: O) H16 := S45.front 1 rfl rfl
            cases hm11
            exact ⟨_, ⟨G8, w13, a8, w15, _, _, _, (((e1.trans e6).trans e7).trans e8), S46, rfl, h45, h48⟩, hr1⟩
      · intro s σ H h1 h2
        cases h1
        obtain ⟨G, k1, k2, k3, k4, k5, k6, ie, irest⟩ := h2
        exact ⟨G, k1, k2, k3, k4, k5, k6, (ie), irest⟩
    · intro σ4 H17 hJ3
      obtain ⟨G9, w16, a9, w17, y7, y8, y9, e9, S47, rfl, h49, h50⟩ := hJ3
      have h51 := R.up e9 h1
      have E9 := E0.trans e9
      obtain ⟨lines7, hq7, hm13⟩ := bindS hm1
      refine gS_CS (fun (σ : L2.St) (H : Hp) => ∃ (G : Hp) (w19 : List V) (y10 : Option V) (y11 : Option V) (y12 : Option V), Ext G9 G ∧ Sub G ((a1, HO.lst w19) :: (a9, HO.lst w17) :: O) H ∧ σ = [some (V.int measure1), some v1, some (V.ref a1), some (V.ref a9), some (V.int pen1), y10, y11, y12] ∧ Al (rT K (rP K rInt rInt)) G w19 lines7) ?_ ?_
      · skip
        refine gIfS ?_
        refine gTest ?_
        refine gOp ?_
        refine gV rfl ?_
        refine gLst ?_
        refine gNil' ?_
        refine ⟨sz0, fun p8 np8 => ?_⟩
        have S55 : Sub G9 ((a1, HO.lst w16) :: (a9, HO.lst w17) :: O) (upd H17 p8 (.lst [])) := S47.junk np8
        have S56 : Sub G9 ((a9, HO.lst w17) :: (a1, HO.lst w16) :: O) (upd H17 p8 (.lst [])) := S55.front 1 rfl rfl
        refine q_neD (dL (dP (dInt (K := K)) (dInt (K := K)))) (by show 4 ≤ 64; decide) (rL_own S56 h50) (⟨p8, [], rfl, .inl (.inl upd_same), True.intro⟩ : R.rel (rL K (rP K rInt rInt)) (upd H17 p8 (.lst [])) (V.ref p8) []) ((okL (okP okI okI)) _) ((okL (okP okI okI)) _) ?_
        refine ⟨(!decide (line1 = ([] : (List (Int × Int))))), rfl, ?_⟩
        refine ite2 (fun c5 => ?_) (fun c5 => ?_)
        · skip
          have hm14 := (if_pos c5).symm.trans hq7
          refine gDrop ?_
          refine gBM ?_
          refine gV rfl ?_
          have S57 : Sub G9 ((a1, HO.lst w16) :: (a9, HO.lst w17) :: O) (upd H17 p8 (.lst [])) := S56.front 1 rfl rfl
          refine ⟨.inl ⟨rfl, _, .inl (.inl S57.head)⟩, ?_⟩
          refine gCons' ?_
          refine gCB ?_
          refine gCons' ?_
          refine gV rfl ?_
          refine gNil' ?_
          have S58 : Sub G9 ((a9, HO.lst w17) :: (a1, HO.lst w16) :: O) (upd H17 p8 (.lst [])) := S57.front 1 rfl rfl
          refine q_tupO S58 h50 (fun v7 G11 H20 e11 S59 h57 => ?_)
          have h58 := R.up e11 h51
          have h59 := Al.up e11 h49
          have h60 := Al.up e11 h50
          have E11 := E9.trans e11
          refine gNil' ?_
          obtain ⟨lines8, hq8, hm15⟩ := bindS hm14
          have S60 : Sub G11 ((a1, HO.lst w16) :: (a9, HO.lst w17) :: O) H20 := S59.front 1 rfl rfl
          refine q_app S60 h59 (show R.rel (rT K (rP K rInt rInt)) G11 v7 line1 from h57) hq8 (fun H21 w20 S61 h61 => ?_)
          cases hm15
          exact ⟨G11, w20, _, _, _, e11, S61, rfl, h61⟩
        · skip
          have hm16 := (if_neg c5).symm.trans hq7
          refine gNext ?_
          have S62 : Sub G9 ((a1, HO.lst w16) :: (a9, HO.lst w17) :: O) (upd H17 p8 (.lst [])) := S56.front 1 rfl rfl
          cases hm16
          exact ⟨G9, w16, _, _, _, (Ext.refl _), S62, rfl, h49⟩
      · intro σ5 H22 hJ4
        obtain ⟨G12, w21, y13, y14, y15, e12, S63, rfl, h62⟩ := hJ4
        have h63 := R.up e12 h51
        have h64 := Al.up e12 h50
        have E12 := E9.trans e12
        refine gRet ?_
        refine gCB ?_
        refine gCons' ?_
        refine gV rfl ?_
        refine gNil' ?_
        refine q_tupO S63 h62 (fun v8 G13 H23 e13 S64 h65 => ?_)
        have h66 := R.up e13 h63
        have h67 := Al.up e13 h62
        have h68 := Al.up e13 h64
        have E13 := E12.trans e13
        have S65 := S64.tail
        have S66 := S65.tail
        cases hm13
        exact q v8 G13 H23 E13 S66 h65
end
end Mr

set_option Elab.async false
set_option linter.all false
set_option maxRecDepth 100000
set_option maxHeartbeats 4000000
namespace Mr
open PySem PySem.Spec PyProof.Rows L2
section
variable {P : Program} {w : World} {K : PySem.W.Frag} {mg : Str → Option Value} {base : Heap}
theorem sc_law_widths : FnScope ["_law_bag_here", "_law_measure", "_law_many", "_law_found", "_law_turn"] ["_law_bag_here", "_law_measure"] (defScope s_law_widths) := ⟨rfl, rfl, rfl, by decide +kernel, rfl, by decide +kernel, by decide +kernel⟩
theorem ok_law_widths (T : Tx K mg) : FnOk P w K mg base CX0 2 (He.fAd K ("_law_widths", none)) T.fd_law_widths ["_law_bag_here", "_law_measure"] (sp_law_widths K) := by
  have G_law_draw := ok_law_draw (P := P) (w := w) (base := base) T
  refine T.F_law_widths.ok sc_law_widths (fun vs H Q E h => ?_) (fun cdv A outer s H0 vs Q E hr h => ?_)
  · obtain ⟨G, O, a1, w1, bag_here1, measure1, rfl, _⟩ := h
    rfl
  · obtain ⟨G0, O, a1, w1, bag_here1, measure1, rfl, S0, h1, res, hm, q⟩ := h
    refine ⟨_, PSs.nox (pss_cons (ps_set (i := 2) sc_law_widths.nd rfl (.inl rfl) (pe_cut (pe_ifExp (pt_cmpR op_eqI (pe_call G_law_draw (hr.mono (by decide)) (by rfl) T.g_law_draw T.F_law_draw.kp T.b_law_draw .nil pass0 (pa_cons (pv 0) (pa_cons pe_int pa_nil))) pe_int (nomark _)) (pe_call G_law_draw (hr.mono (by decide)) (by rfl) T.g_law_draw T.F_law_draw.kp T.b_law_draw .nil pass0 (pa_cons (pv 0) (pa_cons pe_int pa_nil))) (pe_call G_law_draw (hr.mono (by decide)) (by rfl) T.g_law_draw T.F_law_draw.kp T.b_law_draw .nil pass0 (pa_cons (pv 0) (pa_cons pe_int pa_nil))))))
      (pss_cons (ps_set (i := 3) sc_law_widths.nd rfl (.inl rfl) (pe_lst pa_nil))
      (pss_cons (ps_cut (ps_for PassesOwn.never rfl (pi_range1 (by rfl) T.z_range (pa_cons (pv 2) pa_nil)) (pg_name (i := 4) sc_law_widths.nd rfl (.inl rfl))
      (pss_one (ps_expr (pe_bm PySem.F.plainAttrs_list PySem.F.slot_list_append PySem.F.type_list_append mt_append (pv 3) (pa_cons (pe_op op_add pe_int (pe_call G_law_draw (hr.mono (by decide)) (by rfl) T.g_law_draw T.F_law_draw.kp T.b_law_draw .nil pass0 (pa_cons (pv 0) (pa_cons (pe_cut (pe_ifExp (pt_cmpR op_eqI (pe_call G_law_draw (hr.mono (by decide)) (by rfl) T.g_law_draw T.F_law_draw.kp T.b_law_draw .nil pass0 (pa_cons (pv 0) (pa_cons pe_int pa_nil))) pe_int (nomark _)) pe_int (pe_op op_add (pv 1) pe_int))) pa_nil)))) pa_nil))))))
      (pss_one (ps_ret (pv 3)))))), ?_⟩
    have E0 := Ext.refl G0
    have hm0 : (Option.bind (Option.bind (m_law_draw bag_here1 (4 : Int)) fun (r1, bag_here2) =>
  if (decide (r1 = (3 : Int))) then (Option.bind (m_law_draw bag_here2 (61 : Int)) fun (r2, bag_here3) =>
  some (r2, bag_here3)) else (Option.bind (m_law_draw bag_here2 (9 : Int)) fun (r3, bag_here4) =>
  some (r3, bag_here4))) fun (x1, bag_here5) =>
  Option.bind (rngM x1) fun xs1 =>
  Option.bind (folM (m_law_widths_b1 measure1) xs1 (bag_here5, ([] : List Int))) fun (bag_here9, found1) =>
  some (found1, bag_here9)) = some res := hm
    refine gS_AsgN ?_
    obtain ⟨⟨x1, bag_here5⟩, hq4, hm4⟩ := bindS hm0
    dsimp only at hm4
    refine gCE (fun (v : V) (H : Hp) => ∃ (G : Hp) (w5 : List V), Ext G0 G ∧ Sub G ((a1, HO.lst w5) :: O) H ∧ v = (V.int x1) ∧ Al rInt G w5 bag_here5) ?_ ?_
    · skip
      refine gIf ?_
      refine gTest ?_
      refine gOp ?_
      refine gCall ?_
      refine gCons' ?_
      refine gV rfl ?_
      refine gCons' ?_
      refine gC ?_
      refine gNil' ?_
      obtain ⟨⟨r4, bag_here6⟩, hq5, hm5⟩ := bindS hq4
      dsimp only at hm5
      refine ⟨G0, (O), a1, w1, bag_here1, (4 : Int), rfl, S0, h1, (r4, bag_here6), hq5, fun G4 H4 w6 e4 S4 h5 => ?_⟩
      have E4 := E0.trans e4
      refine gC ?_
      refine ⟨_, _, rfl, rfl, ?_⟩
      refine ⟨(decide (r4 = (3 : Int))), rfl, ?_⟩
      refine ite2 (fun c1 => ?_) (fun c1 => ?_)
      · skip
        have hm6 := (if_pos c1).symm.trans hm5
        refine gCall ?_
        refine gCons' ?_
        refine gV rfl ?_
        refine gCons' ?_
        refine gC ?_
        refine gNil' ?_
        obtain ⟨⟨r5, bag_here7⟩, hq6, hm7⟩ := bindS hm6
        dsimp only at hm7
        refine ⟨G4, (O), a1, w6, bag_here6, (61 : Int), rfl, S4, h5, (r5, bag_here7), hq6, fun G5 H5 w7 e5 S5 h6 => ?_⟩
        have E5 := E4.trans e5
        cases hm7
        exact ⟨G5, w7, (e4.trans e5), S5, rfl, h6⟩
      · skip
        have hm8 := (if_neg c1).symm.trans hm5
        refine gCall ?_
        refine gCons' ?_
        refine gV rfl ?_
        refine gCons' ?_
        refine gC ?_
        refine gNil' ?_
        obtain ⟨⟨r6, bag_here8⟩, hq7, hm9⟩ := bindS hm8
        dsimp only at hm9
        refine ⟨G4, (O), a1, w6, bag_here6, (9 : Int), rfl, S4, h5, (r6, bag_here8), hq7, fun G6 H6 w8 e6 S6 h7 => ?_⟩
        have E6 := E4.trans e6
        cases hm9
        exact ⟨G6, w8, (e4.trans e6), S6, rfl, h7⟩
    · intro v1 H7 hJ
      obtain ⟨G7, w9, e7, S7, rfl, h9⟩ := hJ
      have E7 := E0.trans e7
      refine gS_AsgN ?_
      refine gLst ?_
      refine gNil' ?_
      have h10 : Al rInt G7 [] [] := True.intro
      refine q_lst S7 h10 (by show 0 ≤ 100000; decide) (fun a2 H8 w10 S8 h11 => ?_)
      obtain ⟨xs1, hq8, hm10⟩ := bindS hm4
      obtain ⟨⟨bag_here9, found1⟩, hl1, hm11⟩ := bindS hm10
      dsimp only at hm11
      refine gS_CS (fun (σ : L2.St) (H : Hp) => ∃ (G : Hp) (w11 : List V) (w12 : List V) (y1 : Option V), Ext G7 G ∧ Sub G ((a1, HO.lst w11) :: (a2, HO.lst w12) :: O) H ∧ σ = [some (V.ref a1), some (V.int measure1), some (V.int x1), some (V.ref a2), y1] ∧ Al rInt G w11 bag_here9 ∧ Al rInt G w12 found1) ?_ ?_
      · skip
        refine gFor ?_
        refine gIR ?_
        refine gCons' ?_
        refine gV rfl ?_
        refine gNil' ?_
        have S9 : Sub G7 ((a1, HO.lst w9) :: (a2, HO.lst w10) :: O) H8 := S8.front 1 rfl rfl
        refine lp_R hq8 (fol_for Empty hl1) (fun (s : (List Int) × (List Int)) (σ : L2.St) (H : Hp) => ∃ (G : Hp) (w11 : List V) (w12 : List V) (y1 : Option V), Ext G7 G ∧ Sub G ((a1, HO.lst w11) :: (a2, HO.lst w12) :: O) H ∧ σ = [some (V.ref a1), some (V.int measure1), some (V.int x1), some (V.ref a2), y1] ∧ Al rInt G w11 s.1 ∧ Al rInt G w12 s.2) ⟨G7, w9, w10, _, (Ext.refl _), S9, rfl, h9, h11⟩ ?_ ?_
        · intro i1 x2 s1 b1 hb1 hr1 σ1 H9 hI1
          obtain ⟨s2, hb2, hb3⟩ := goF_some hb1
          subst hb3
          obtain ⟨bag_here10, found2⟩ := s1
          obtain ⟨G8, w13, w14, y2, e8, S10, rfl, h13, h14⟩ := hI1
          have E8 := E7.trans e8
          have hm12 : (Option.bind (Option.bind (m_law_draw bag_here10 (2 : Int)) fun (r7, bag_here11) =>
  if (decide (r7 = (1 : Int))) then (some ((4 : Int), bag_here11)) else (some ((measure1 + (3 : Int)), bag_here11))) fun (x3, bag_here12) =>
  Option.bind (m_law_draw bag_here12 x3) fun (r9, bag_here14) =>
  Option.bind (appM found2 ((1 : Int) + r9)) fun found3 =>
  some (bag_here14, found3)) = some s2 := hb2
          refine gDrop ?_
          refine gBM ?_
          refine gV rfl ?_
          have S11 : Sub G8 ((a2, HO.lst w14) :: (a1, HO.lst w13) :: O) H9 := S10.front 1 rfl rfl
          refine ⟨.inl ⟨rfl, _, .inl (.inl S11.head)⟩, ?_⟩
          refine gCons' ?_
          refine gOp ?_
          refine gC ?_
          refine gCall ?_
          refine gCons' ?_
          refine gV rfl ?_
          refine gCons' ?_
          obtain ⟨⟨x3, bag_here12⟩, hq10, hm14⟩ := bindS hm12
          dsimp only at hm14
          refine gCE (fun (v : V) (H : Hp) => ∃ (G : Hp) (w16 : List V), Ext G8 G ∧ Sub G ((a2, HO.lst w14) :: (a1, HO.lst w16) :: O) H ∧ v = (V.int x3) ∧ Al rInt G w16 bag_here12) ?_ ?_
          · skip
            refine gIf ?_
            refine gTest ?_
            refine gOp ?_
            refine gCall ?_
            refine gCons' ?_
            refine gV rfl ?_
            refine gCons' ?_
            refine gC ?_
            refine gNil' ?_
            have S14 : Sub G8 ((a1, HO.lst w13) :: (a2, HO.lst w14) :: O) H9 := S11.front 1 rfl rfl
            obtain ⟨⟨r8, bag_here13⟩, hq11, hm15⟩ := bindS hq10
            dsimp only at hm15
            refine ⟨G8, ((a2, HO.lst w14) :: O), a1, w13, bag_here10, (2 : Int), rfl, S14, h13, (r8, bag_here13), hq11, fun G10 H11 w17 e10 S15 h18 => ?_⟩
            have h19 := Al.up e10 h14
            have h20 := Al.up e10 h13
            have E10 := E8.trans e10
            refine gC ?_
            refine ⟨_, _, rfl, rfl, ?_⟩
            refine ⟨(decide (r8 = (1 : Int))), rfl, ?_⟩
            refine ite2 (fun c2 => ?_) (fun c2 => ?_)
            · skip
              have hm16 := (if_pos c2).symm.trans hm15
              refine gC ?_
              have S16 : Sub G10 ((a2, HO.lst w14) :: (a1, HO.lst w17) :: O) H11 := S15.front 1 rfl rfl
              cases hm16
              exact ⟨G10, w17, e10, S16, rfl, h18⟩
            · skip
              have hm17 := (if_neg c2).symm.trans hm15
              refine gOp ?_
              refine gV rfl ?_
              refine gC ?_
              refine ⟨_, _, rfl, rfl, ?_⟩
              have S17 : Sub G10 ((a2, HO.lst w14) :: (a1, HO.lst w17) :: O) H11 := S15.front 1 rfl rfl
              cases hm17
              exact ⟨G10, w17, e10, S17, rfl, h18⟩
          · intro v3 H12 hJ
            obtain ⟨G11, w18, e11, S18, rfl, h22⟩ := hJ
            have h23 := Al.up e11 h14
            have E11 := E8.trans e11
            refine gNil' ?_
            have S19 : Sub G11 ((a1, HO.lst w18) :: (a2, HO.lst w14) :: O) H12 := S18.front 1 rfl rfl
            obtain ⟨⟨r9, bag_here14⟩, hq12, hm18⟩ := bindS hm14
            dsimp only at hm18
            refine ⟨G11, ((a2, HO.lst w14) :: O), a1, w18, bag_here12, x3, rfl, S19, h22, (r9, bag_here14), hq12, fun G12 H13 w19 e12 S20 h24 => ?_⟩
            have h25 := Al.up e12 h23
            have E12 := E11.trans e12
            refine ⟨_, _, rfl, rfl, ?_⟩
            refine gNil' ?_
            obtain ⟨found3, hq13, hm19⟩ := bindS hm18
            have S21 : Sub G12 ((a2, HO.lst w14) :: (a1, HO.lst w19) :: O) H13 := S20.front 1 rfl rfl
            refine q_app S21 h25 (show R.rel rInt G12 (V.int ((1 : Int) + r9)) ((1 : Int) + r9) from rfl) hq13 (fun H14 w20 S22 h26 => ?_)
            have S23 : Sub G12 ((a1, HO.lst w19) :: (a2, HO.lst w20) :: O) H14 := S22.front 1 rfl rfl
            cases hm19
            exact ⟨_, ⟨G12, w19, w20, _, ((e8.trans e11).trans e12), S23, rfl, h24, h26⟩, hr1⟩
        · intro s σ H h1 h2
          cases h1
          obtain ⟨G, k1, k2, k3, ie, irest⟩ := h2
          exact ⟨G, k1, k2, k3, (ie), irest⟩
      · intro σ2 H15 hJ1
        obtain ⟨G13, w21, w22, y3, e13, S24, rfl, h27, h28⟩ := hJ1
        have E13 := E7.trans e13
        refine gRet ?_
        refine gV rfl ?_
        have S25 : Sub G13 ((a2, HO.lst w22) :: (a1, HO.lst w21) :: O) H15 := S24.front 1 rfl rfl
        obtain ⟨G14, e14, S26, h29⟩ := frz_L (K := K) S25 h28
        have h30 := Al.up e14 h27
        have E14 := E13.trans e14
        cases hm11
        exact q (V.ref a2) G14 H15 w21 E14 S26 h29 h30
end
end Mr

set_option Elab.async false
set_option linter.all false
set_option maxRecDepth 100000
set_option maxHeartbeats 4000000
namespace Mr
open PySem PySem.Spec PyProof.Rows L2
section
variable {P : Program} {w : World} {K : PySem.W.Frag} {mg : Str → Option Value} {base : Heap}
theorem sc_law_right : FnScope ["_law_measure", "_law_widths_here", "_law_handed", "_law_told", "_law_place", "_law_pen", "_law_end", "_law_line", "_law_k", "_law_pair", "_law_after"] ["_law_measure", "_law_widths_here", "_law_handed"] (defScope s_law_right) := ⟨rfl, rfl, rfl, by decide +kernel, rfl, by decide +kernel, by decide +kernel⟩
theorem ok_law_right (T : Tx K mg) : FnOk P w K mg base CX0 3 (He.fAd K ("_law_right", none)) T.fd_law_right ["_law_measure", "_law_widths_here", "_law_handed"] (sp_law_right K) := by
  have G_law_pair_right := ok_law_pair_right (P := P) (w := w) (base := base) T
  have G_law_pen_right := ok_law_pen_right (P := P) (w := w) (base := base) T
  have G_fill_widths := ok_fill_widths (P := P) (w := w) (base := base) T
  have G_pen_after := ok_pen_after (P := P) (w := w) (base := base) T
  refine T.F_law_right.ok sc_law_right (fun vs H Q E h => ?_) (fun cdv A outer s H0 vs Q E hr h => ?_)
  · obtain ⟨G, O, measure1, v1, widths_here1, v2, handed1, rfl, _⟩ := h
    rfl
  · obtain ⟨G0, O, measure1, v1, widths_here1, v2, handed1, rfl, S0, h1, h2, res, hm, q⟩ := h
    refine ⟨_, PSs.nox (pss_cons (ps_set (i := 3) sc_law_right.nd rfl (.inl rfl) (pe_call G_fill_widths (hr.mono (by decide)) (by rfl) T.g_fill_widths T.F_fill_widths.kp T.b_fill_widths .nil pass0 (pa_cons (pv 0) (pa_cons (pv 2) pa_nil))))
      (pss_cons (ps_if (pt_cut (PW.pt (pw_or (pt_cmpR (op_neD hr.units) (pe_callTy call_listOf (by rfl) T.z_list boot_list (pa_cons (pv 2) pa_nil)) (pv 1) (nomark _)) (pw_or1 (pt_not (pt_val (pe_callB call_isi (by rfl) T.z_isinstance boot_isinstance (pa_cons (pv 3) (pa_cons (pe_bltn (v := .ty "tuple") (by rfl) T.z_tuple boot_tuple rfl) pa_nil))))))))) (pss_one (ps_ret pe_bl)) pss_nil)
      (pss_cons (ps_asg (pe_tup (pa_cons pe_int (pa_cons pe_int (pa_cons pe_int pa_nil)))) (pg_tup rfl (pgs_cons (pg_name (i := 4) sc_law_right.nd rfl (.inl rfl)) (pgs_cons (pg_name (i := 5) sc_law_right.nd rfl (.inl rfl)) (pgs_cons (pg_name (i := 6) sc_law_right.nd rfl (.inl rfl)) pgs_nil)))))
      (pss_cons (ps_cut (ps_for PassesOwn.never rfl (pi_tup (pv 3)) (pg_name (i := 7) sc_law_right.nd rfl (.inl rfl))
      (pss_cons (ps_if (pt_cut (PW.pt (pw_or (pt_not (pt_val (pe_callB call_isi (by rfl) T.z_isinstance boot_isinstance (pa_cons (pv 7) (pa_cons (pe_bltn (v := .ty "tuple") (by rfl) T.z_tuple boot_tuple rfl) pa_nil))))) (pw_or1 (pt_cmpR (op_eqD hr.units) (pv 7) (pe_tup pa_nil) (nomark _)))))) (pss_one (ps_ret pe_bl)) pss_nil)
      (pss_one (ps_cut (ps_for PassesOwn.never rfl (pi_enumQ (by rfl) T.z_enumerate (pa_cons (pv 7) pa_nil)) (pg_tup rfl (pgs_cons (pg_name (i := 8) sc_law_right.nd rfl (.inl rfl)) (pgs_cons (pg_name (i := 9) sc_law_right.nd rfl (.inl rfl)) pgs_nil)))
      (pss_cons (ps_if (pt_cut (PW.pt (pw_or (pt_cmpR op_ge (pv 4) (pe_callB call_lenM (by rfl) T.z_len boot_len (pa_cons (pv 1) pa_nil)) (nomark _)) (pw_or1 (pt_not (pt_val (pe_call G_law_pair_right (hr.mono (by decide)) (by rfl) T.g_law_pair_right T.F_law_pair_right.kp T.b_law_pair_right .nil pass0 (pa_cons (pv 9) (pa_cons (pv 4) (pa_cons (pe_cut (pe_ifExp (pt_cmpR op_gt (pv 8) pe_int (nomark _)) (pe_op op_add (pv 6) pe_int) pe_int)) pa_nil)))))))))) (pss_one (ps_ret pe_bl)) pss_nil)
      (pss_cons (ps_if (pt_cmpR op_neB (pe_cmpR op_gt (pv 8) pe_int (nomark _)) (pe_cut (pe_and (pe_cmpR op_gt (pv 4) pe_int (nomark _)) (pe_one (pe_cmpR op_le (pe_op op_add (pe_op op_add (pv 6) pe_int) (pe_ix ix_list (pv 1) (pv 4) (fun _ _ => rfl))) (pv 0) (nomark _))))) (nomark _)) (pss_one (ps_ret pe_bl)) pss_nil)
      (pss_cons (ps_set (i := 6) sc_law_right.nd rfl (.inl rfl) (pe_op op_add (pe_ix ix_list (pv 1) (pv 4) (fun _ _ => rfl)) (pe_cut (pe_ifExp (pt_cmpR op_gt (pv 8) pe_int (nomark _)) (pe_op op_add (pv 6) pe_int) pe_int))))
      (pss_cons (ps_set (i := 10) sc_law_right.nd rfl (.inl rfl) (pe_call G_pen_after (hr.mono (by decide)) (by rfl) T.g_pen_after T.F_pen_after.kp T.b_pen_after .nil pass0 (pa_cons (pv 0) (pa_cons (pv 5) (pa_cons (pe_ix ix_list (pv 1) (pv 4) (fun _ _ => rfl)) pa_nil)))))
      (pss_cons (ps_set (i := 5) sc_law_right.nd rfl (.inl rfl) (pe_callB (call_min2 rfl) (by rfl) T.z_min boot_min (pa_cons (pv 6) (pa_cons (pe_op op_add (pv 0) pe_int) pa_nil))))
      (pss_cons (ps_if (pt_not (pt_val (pe_call G_law_pen_right (hr.mono (by decide)) (by rfl) T.g_law_pen_right T.F_law_pen_right.kp T.b_law_pen_right .nil pass0 (pa_cons (pv 10) (pa_cons (pv 5) (pa_cons (pe_cmpR op_eqI (pv 8) pe_int (nomark _)) pa_nil)))))) (pss_one (ps_ret pe_bl)) pss_nil)
      (pss_one (ps_set (i := 4) sc_law_right.nd rfl (.inl rfl) (pe_op op_add (pv 4) pe_int)))))))))))))))
      (pss_one (ps_ret (pe_cmpR op_eqI (pv 4) (pe_callB call_lenM (by rfl) T.z_len boot_len (pa_cons (pv 1) pa_nil)) (nomark _)))))))), ?_⟩
    have E0 := Ext.refl G0
    have hm0 : (Option.bind (m_fill_widths measure1 handed1) fun r1 =>
  Option.bind (if (!decide (handed1 = widths_here1)) then some true else (some (!true))) fun x1 =>
  if x1 then (some false)
  else (Option.bind (forL (m_law_right_b1 measure1 widths_here1) r1 ((0 : Int), (0 : Int), (0 : Int))) fun res => match res with
  | Fl.rt r => some r
  | Fl.nx (place1, pen1, end1) => some (decide (place1 = (widths_here1.length : Int))))) = some res := hm
    refine gS_AsgN ?_
    refine gCall ?_
    refine gCons' ?_
    refine gV rfl ?_
    refine gCons' ?_
    refine gV rfl ?_
    refine gNil' ?_
    obtain ⟨r1, hq1, hm1⟩ := bindS hm0
    refine ⟨G0, (O), measure1, v2, handed1, rfl, S0, h2, r1, hq1, fun v3 G1 H1 e1 S1 h3 => ?_⟩
    have h4 := R.up e1 h1
    have h5 := R.up e1 h2
    have E1 := E0.trans e1
    refine gS_IfS ?_
    obtain ⟨x1, hq2, hm2⟩ := bindS hm1
    refine gCT (fun (b : Bool) (H : Hp) => ∃ G : Hp, Ext G1 G ∧ Sub G (O) H ∧ b = x1) ?_ ?_
    · skip
      refine gOr ?_
      refine gTest ?_
      refine gOp ?_
      refine gCB ?_
      refine gCons' ?_
      refine gV rfl ?_
      refine gNil' ?_
      refine q_listQ S1 h5 (fun v5 G3 H3 e3 S3 h10 => ?_)
      have h11 := R.up e3 h4
      have h12 := R.up e3 h5
      have h13 := R.up e3 h3
      have E3 := E1.trans e3
      refine gV rfl ?_
      refine q_neD (dL (dInt (K := K))) (by show 2 ≤ 64; decide) (R.up S3.ext h10) (R.up S3.ext h11) ((okL okI) _) ((okL okI) _) ?_
      refine ⟨(!decide (handed1 = widths_here1)), rfl, ?_⟩
      refine ite2 (fun c1 => ?_) (fun c1 => ?_)
      · skip
        have hm3 := (if_pos c1).symm.trans hq2
        cases hm3
        exact ⟨G3, e3, S3, rfl⟩
      · skip
        have hm4 := (if_neg c1).symm.trans hq2
        refine gNot ?_
        refine gB ?_
        refine gCB ?_
        refine gCons' ?_
        refine gV rfl ?_
        refine gCons' ?_
        refine gC ?_
        refine gNil' ?_
        refine q_isi (ty_T (R.up S3.ext h13)) (by decide +kernel : kitB "tuple" "tuple" = some true) ?_
        refine ⟨true, rfl, ?_⟩
        cases hm4
        exact ⟨G3, e3, S3, rfl⟩
    · intro b1 H4 hJ
      obtain ⟨G4, e4, S4, rfl⟩ := hJ
      have h14 := R.up e4 h4
      have h15 := R.up e4 h5
      have h16 := R.up e4 h3
      have E4 := E1.trans e4
      refine ite2 (fun c2 => ?_) (fun c2 => ?_)
      · skip
        have hm5 := (if_pos c2).symm.trans hm2
        refine gRet ?_
        refine gC ?_
        cases hm5
        exact q G4 H4 E4 S4
      · skip
        have hm6 := (if_neg c2).symm.trans hm2
        refine gNext ?_
        refine gE ?_
        refine gS_Asg ?_
        refine gTup' ?_
        refine gCons' ?_
        refine gC ?_
        refine gCons' ?_
        refine gC ?_
        refine gCons' ?_
        refine gC ?_
        refine gNil' ?_
        refine q_tup3 (K := K) S4 (show R.rel rInt G4 (V.int (0 : Int)) (0 : Int) from rfl) (show R.rel rInt G4 (V.int (0 : Int)) (0 : Int) from rfl) (show R.rel rInt G4 (V.int (0 : Int)) (0 : Int) from rfl) (fun v6 G5 H5 e5 S5 h17 => ?_)
        have h18 := R.up e5 h14
        have h19 := R.up e5 h15
        have h20 := R.up e5 h16
        have E5 := E4.trans e5
        obtain ⟨p1, v7, v8, v9, rfl, hq3, h21, h22, h23⟩ := h17
        refine ⟨p1, _, rfl, sqT_up S5.ext hq3, rfl, _, _, rfl, _, _, rfl, _, _, rfl, rfl, ?_⟩
        obtain rfl := (show v7 = (V.int (0 : Int)) from h21)
        obtain rfl := (show v8 = (V.int (0 : Int)) from h22)
        obtain rfl := (show v9 = (V.int (0 : Int)) from h23)
        obtain ⟨res1, hl1, hm7⟩ := bindS hm6
        refine gS_CS (fun (σ : L2.St) (H : Hp) => ∃ s : Int × Int × Int, res1 = Fl.nx s ∧ ∃ (G : Hp) (y1 : Option V) (y2 : Option V) (y3 : Option V) (y4 : Option V), Ext G5 G ∧ Sub G (O) H ∧ σ = [some (V.int measure1), some v1, some v2, some v3, some (V.int s.1), some (V.int s.2.1), some (V.int s.2.2), y1, y2, y3, y4]) ?_ ?_
        · skip
          refine gFor ?_
          refine gIT ?_
          refine gV rfl ?_
          refine lp_T (r := (rT K (rP K rInt rInt))) S5 h20 hl1 (fun (s : Int × Int × Int) (σ : L2.St) (H : Hp) => ∃ (G : Hp) (y1 : Option V) (y2 : Option V) (y3 : Option V) (y4 : Option V), Ext G5 G ∧ Sub G (O) H ∧ σ = [some (V.int measure1), some v1, some v2, some v3, some (V.int s.1), some (V.int s.2.1), some (V.int s.2.2), y1, y2, y3, y4]) ⟨G5, _, _, _, _, (Ext.refl _), S5, rfl⟩ ?_ ?_ ?_
          · intro s σ H hI
            obtain ⟨G, k1, k2, k3, k4, ie, iS, _⟩ := hI
            exact ie.trans iS.ext
          · intro i1 x2 s1 b2 hb1 hr1 v10 σ1 H6 hI1 h24
            obtain ⟨place2, pen2, end2⟩ := s1
            obtain ⟨G6, y5, y6, y7, y8, e6, S6, rfl⟩ := hI1
            have h25 := R.up e6 h18
            have h26 := R.up e6 h19
            have h27 := R.up e6 h20
            have h28 := R.up e6 h20
            have E6 := E5.trans e6
            have h29 := R.up e6 h24
            have hm8 : (if ((!true) || (decide (x2 = ([] : (List (Int × Int)))))) then (some (Bf.rt false))
  else (Option.bind (forL (m_law_right_b2 measure1 widths_here1) (enumM x2) (place2, pen2, end2)) fun res => match res with
  | Fl.rt r => some (Bf.rt r)
  | Fl.nx (place3, pen3, end3) => some (Bf.go (place3, pen3, end3)))) = some b2 := hb1
            refine gS_IfS ?_
            refine gCT (fun (b : Bool) (H : Hp) => ∃ G : Hp, Ext G6 G ∧ Sub G (O) H ∧ b = ((!true) || (decide (x2 = ([] : (List (Int × Int))))))) ?_ ?_
            · skip
              refine gOr ?_
              refine gNot ?_
              refine gB ?_
              refine gCB ?_
              refine gCons' ?_
              refine gV rfl ?_
              refine gCons' ?_
              refine gC ?_
              refine gNil' ?_
              refine q_isi (ty_T (R.up S6.ext h29)) (by decide +kernel : kitB "tuple" "tuple" = some true) ?_
              refine ⟨true, rfl, ?_⟩
              refine ite2 (fun c3 => ?_) (fun c3 => ?_)
              · skip
                exact ⟨G6, (Ext.refl _), S6, (by rw [c3, Bool.true_or])⟩
              · skip
                refine gTest ?_
                refine gOp ?_
                refine gV rfl ?_
                refine gTup' ?_
                refine gNil' ?_
                refine ⟨sz0, fun p3 np2 => ?_⟩
                have S8 : Sub G6 (O) (upd H6 p3 (.tup [])) := S6.junk np2
                refine q_eqD (dT (dP (dInt (K := K)) (dInt (K := K)))) (by show 4 ≤ 64; decide) (R.up S8.ext h29) (⟨p3, [], rfl, .inl (.inl upd_same), True.intro⟩ : R.rel (rT K (rP K rInt rInt)) (upd H6 p3 (.tup [])) (V.ref p3) []) ((okT (okP okI okI)) _) ((okT (okP okI okI)) _) ?_
                refine ⟨(decide (x2 = ([] : (List (Int × Int))))), rfl, ?_⟩
                exact ⟨G6, (Ext.refl _), S8, (by rw [ne_false c3, Bool.false_or])⟩
            · intro b3 H7 hJ
              obtain ⟨G7, e7, S9, rfl⟩ := hJ
              have h30 := R.up e7 h25
              have h31 := R.up e7 h26
              have h32 := R.up e7 h27
              have h33 := R.up e7 h29
              have h34 := R.up e7 h28
              have E7 := E6.trans e7
              refine ite2 (fun c4 => ?_) (fun c4 => ?_)
              · skip
                have hm9 := (if_pos c4).symm.trans hm8
                refine gRet ?_
                refine gC ?_
                cases hm9
                have hr2 := Option.some.inj (show some (Fl.rt _) = some res1 from hr1)
                subst hr2
                dsimp only at hm7
                cases hm7
                exact q G7 H7 E7 S9
              · skip
                have hm10 := (if_neg c4).symm.trans hm8
                refine gNext ?_
                refine gE ?_
                obtain ⟨res2, hl2, hm11⟩ := bindS hm10
                refine gCS (fun (σ : L2.St) (H : Hp) => ∃ s : Int × Int × Int, res2 = Fl.nx s ∧ ∃ (G : Hp) (y9 : Option V) (y10 : Option V) (y11 : Option V), Ext G7 G ∧ Sub G (O) H ∧ σ = [some (V.int measure1), some v1, some v2, some v3, some (V.int s.1), some (V.int s.2.1), some (V.int s.2.2), some v10, y9, y10, y11]) ?_ ?_
                · skip
                  refine gFor ?_
                  refine gIE ?_
                  refine gCons' ?_
                  refine gV rfl ?_
                  refine gNil' ?_
                  refine lp_EQ (r := (rP K rInt rInt)) S9 (rT_Q h33) hl2 (fun (s : Int × Int × Int) (σ : L2.St) (H : Hp) => ∃ (G : Hp) (y9 : Option V) (y10 : Option V) (y11 : Option V), Ext G7 G ∧ Sub G (O) H ∧ σ = [some (V.int measure1), some v1, some v2, some v3, some (V.int s.1), some (V.int s.2.1), some (V.int s.2.2), some v10, y9, y10, y11]) ⟨G7, _, _, _, (Ext.refl _), S9, rfl⟩ ?_ ?_ ?_
                  · intro s σ H hI
                    obtain ⟨G, k5, k6, k7, ie, iS, _⟩ := hI
                    exact ie.trans iS.ext
                  · intro i2 x3 s2 b4 hb2 hr3 v11 σ2 H8 H9 hI2 hS1 h35
                    obtain ⟨place4, pen4, end4⟩ := s2
                    obtain ⟨G8, y12, y13, y14, e8, S10, rfl⟩ := hI2
                    have h36 := R.up e8 h30
                    have h37 := R.up e8 h31
                    have h38 := R.up e8 h32
                    have h39 := R.up e8 h33
                    have h40 := R.up e8 h34
                    have h41 := R.up e8 h33
                    have E8 := E7.trans e8
                    have S11 := hS1 _ _ S10
                    generalize ((i2 : Nat) : Int) = k8 at hb2 ⊢
                    have h42 := R.up e8 h35
                    have hm12 : (Option.bind (if (decide (place4 ≥ (widths_here1.length : Int))) then some true else (Option.bind (m_law_pair_right x3 place4 (if (decide (k8 > (0 : Int))) then (end4 + (1 : Int)) else (0 : Int))) fun r2 =>
  some (!r2))) fun x4 =>
  if x4 then (some (Bf.rt false))
  else (Option.bind (if (decide (place4 > (0 : Int))) then (Option.bind (getM widths_here1 place4) fun x5 =>
  some (decide (((end4 + (1 : Int)) + x5) ≤ measure1))) else some false) fun x6 =>
  if ((decide (k8 > (0 : Int))) != x6) then (some (Bf.rt false))
  else (Option.bind (getM widths_here1 place4) fun x8 =>
  Option.bind (getM widths_here1 place4) fun x9 =>
  Option.bind (m_pen_after measure1 pen4 x9) fun r4 =>
  Option.bind (m_law_pen_right r4 (if (measure1 + (1 : Int)) < (x8 + (if (decide (k8 > (0 : Int))) then (end4 + (1 : Int)) else (0 : Int))) then (measure1 + (1 : Int)) else (x8 + (if (decide (k8 > (0 : Int))) then (end4 + (1 : Int)) else (0 : Int)))) (decide (k8 = (0 : Int)))) fun r5 =>
  if (!r5) then (some (Bf.rt false))
  else (some (Bf.go ((place4 + (1 : Int)), (if (measure1 + (1 : Int)) < (x8 + (if (decide (k8 > (0 : Int))) then (end4 + (1 : Int)) else (0 : Int))) then (measure1 + (1 : Int)) else (x8 + (if (decide (k8 > (0 : Int))) then (end4 + (1 : Int)) else (0 : Int)))), (x8 + (if (decide (k8 > (0 : Int))) then (end4 + (1 : Int)) else (0 : Int))))))))) = some b4 := hb2
                    refine gS_IfS ?_
                    obtain ⟨x4, hq5, hm14⟩ := bindS hm12
                    refine gCT (fun (b : Bool) (H : Hp) => ∃ G : Hp, Ext G8 G ∧ Sub G (O) H ∧ b = x4) ?_ ?_
                    · skip
                      refine gOr ?_
                      refine gTest ?_
                      refine gOp ?_
                      refine gV rfl ?_
                      refine gCB ?_
                      refine gCons' ?_
                      refine gV rfl ?_
                      refine gNil' ?_
                      refine q_lenL (y := V.non) S11 h36 ?_
                      refine ⟨_, _, rfl, rfl, ?_⟩
                      refine ⟨(decide (place4 ≥ (widths_here1.length : Int))), rfl, ?_⟩
                      refine ite2 (fun c6 => ?_) (fun c6 => ?_)
                      · skip
                        have hm15 := (if_pos c6).symm.trans hq5
                        cases hm15
                        exact ⟨G8, (Ext.refl _), S11, rfl⟩
                      · skip
                        have hm16 := (if_neg c6).symm.trans hq5
                        refine gNot ?_
                        refine gB ?_
                        refine gCall ?_
                        refine gCons' ?_
                        refine gV rfl ?_
                        refine gCons' ?_
                        refine gV rfl ?_
                        refine gCons' ?_
                        refine gCE (fun (v : V) (H : Hp) => ∃ (G : Hp), Ext G8 G ∧ Sub G (O) H ∧ v = (V.int (if (decide (k8 > (0 : Int))) then (end4 + (1 : Int)) else (0 : Int)))) ?_ ?_
                        · skip
                          refine gIf ?_
                          refine gTest ?_
                          refine gOp ?_
                          refine gV rfl ?_
                          refine gC ?_
                          refine ⟨_, _, rfl, rfl, ?_⟩
                          refine ⟨(decide (k8 > (0 : Int))), rfl, ?_⟩
                          refine ite2 (fun c7 => ?_) (fun c7 => ?_)
                          · skip
                            refine gOp ?_
                            refine gV rfl ?_
                            refine gC ?_
                            refine ⟨_, _, rfl, rfl, ?_⟩
                            exact ⟨G8, (Ext.refl _), S11, congrArg V.int (if_pos c7).symm⟩
                          · skip
                            refine gC ?_
                            exact ⟨G8, (Ext.refl _), S11, congrArg V.int (if_neg c7).symm⟩
                        · intro v13 H12 hJ
                          obtain ⟨G11, e11, S14, rfl⟩ := hJ
                          have h59 := R.up e11 h36
                          have h60 := R.up e11 h37
                          have h61 := R.up e11 h38
                          have h62 := R.up e11 h39
                          have h63 := R.up e11 h42
                          have h64 := R.up e11 h40
                          have h65 := R.up e11 h41
                          have E11 := E8.trans e11
                          refine gNil' ?_
                          obtain ⟨r3, hq6, hm17⟩ := bindS hm16
                          refine ⟨G11, (O), v11, x3, place4, (if (decide (k8 > (0 : Int))) then (end4 + (1 : Int)) else (0 : Int)), rfl, S14, h63, r3, hq6, fun G12 H13 e12 S15 => ?_⟩
                          have h66 := R.up e12 h59
                          have h67 := R.up e12 h60
                          have h68 := R.up e12 h61
                          have h69 := R.up e12 h62
                          have h70 := R.up e12 h63
                          have h71 := R.up e12 h64
                          have h72 := R.up e12 h65
                          have E12 := E11.trans e12
                          refine ⟨r3, rfl, ?_⟩
                          cases hm17
                          exact ⟨G12, (e11.trans e12), S15, rfl⟩
                    · intro b5 H14 hJ
                      obtain ⟨G13, e13, S16, rfl⟩ := hJ
                      have h73 := R.up e13 h36
                      have h74 := R.up e13 h37
                      have h75 := R.up e13 h38
                      have h76 := R.up e13 h39
                      have h77 := R.up e13 h42
                      have h78 := R.up e13 h40
                      have h79 := R.up e13 h41
                      have E13 := E8.trans e13
                      refine ite2 (fun c8 => ?_) (fun c8 => ?_)
                      · skip
                        have hm18 := (if_pos c8).symm.trans hm14
                        refine gRet ?_
                        refine gC ?_
                        cases hm18
                        have hr4 := Option.some.inj (show some (Fl.rt _) = some res2 from hr3)
                        subst hr4
                        dsimp only at hm11
                        cases hm11
                        have hr5 := Option.some.inj (show some (Fl.rt _) = some res1 from hr1)
                        subst hr5
                        dsimp only at hm7
                        cases hm7
                        exact q G13 H14 E13 S16
                      · skip
                        have hm19 := (if_neg c8).symm.trans hm14
                        refine gNext ?_
                        refine gE ?_
                        refine gS_IfS ?_
                        refine gTest ?_
                        refine gOp ?_
                        refine gOp ?_
                        refine gV rfl ?_
                        refine gC ?_
                        refine ⟨_, _, rfl, rfl, ?_⟩
                        obtain ⟨x6, hq8, hm21⟩ := bindS hm19
                        refine gCE (fun (b : V) (H : Hp) => ∃ G : Hp, Ext G13 G ∧ Sub G (O) H ∧ b = V.bl x6) ?_ ?_
                        · skip
                          refine gAndV ?_
                          refine gOp ?_
                          refine gV rfl ?_
                          refine gC ?_
                          refine ⟨_, _, rfl, rfl, ?_⟩
                          refine ⟨(decide (place4 > (0 : Int))), rfl, ?_⟩
                          refine ite2 (fun c9 => ?_) (fun c9 => ?_)
                          · skip
                            have hm22 := (if_pos c9).symm.trans hq8
                            refine gOp ?_
                            refine gOp ?_
                            refine gOp ?_
                            refine gV rfl ?_
                            refine gC ?_
                            refine ⟨_, _, rfl, rfl, ?_⟩
                            refine gOp ?_
                            refine gV rfl ?_
                            refine gV rfl ?_
                            obtain ⟨x7, hq9, hm23⟩ := bindS hm22
                            refine q_ixL S16 h73 hq9 (fun v15 h81 => ?_)
                            obtain rfl := (show v15 = (V.int x7) from h81)
                            refine ⟨_, _, rfl, rfl, ?_⟩
                            refine gV rfl ?_
                            refine ⟨_, _, rfl, rfl, ?_⟩
                            cases hm23
                            exact ⟨G13, (Ext.refl _), S16, rfl⟩
                          · skip
                            have hm24 := (if_neg c9).symm.trans hq8
                            cases hm24
                            exact ⟨G13, (Ext.refl _), S16, rfl⟩
                        · intro b6 H15 hJ
                          obtain ⟨G14, e14, S17, rfl⟩ := hJ
                          have h82 := R.up e14 h73
                          have h83 := R.up e14 h74
                          have h84 := R.up e14 h75
                          have h85 := R.up e14 h76
                          have h86 := R.up e14 h77
                          have h87 := R.up e14 h78
                          have h88 := R.up e14 h79
                          have E14 := E13.trans e14
                          refine ⟨_, _, rfl, rfl, ?_⟩
                          refine ⟨((decide (k8 > (0 : Int))) != x6), rfl, ?_⟩
                          refine ite2 (fun c10 => ?_) (fun c10 => ?_)
                          · skip
                            have hm25 := (if_pos c10).symm.trans hm21
                            refine gRet ?_
                            refine gC ?_
                            cases hm25
                            have hr6 := Option.some.inj (show some (Fl.rt _) = some res2 from hr3)
                            subst hr6
                            dsimp only at hm11
                            cases hm11
                            have hr7 := Option.some.inj (show some (Fl.rt _) = some res1 from hr1)
                            subst hr7
                            dsimp only at hm7
                            cases hm7
                            exact q G14 H15 E14 S17
                          · skip
                            have hm26 := (if_neg c10).symm.trans hm21
                            refine gNext ?_
                            refine gE ?_
                            refine gS_AsgN ?_
                            refine gOp ?_
                            refine gOp ?_
                            refine gV rfl ?_
                            refine gV rfl ?_
                            obtain ⟨x8, hq10, hm27⟩ := bindS hm26
                            refine q_ixL S17 h82 hq10 (fun v16 h89 => ?_)
                            obtain rfl := (show v16 = (V.int x8) from h89)
                            refine gCE (fun (v : V) (H : Hp) => ∃ (G : Hp), Ext G14 G ∧ Sub G (O) H ∧ v = (V.int (if (decide (k8 > (0 : Int))) then (end4 + (1 : Int)) else (0 : Int)))) ?_ ?_
                            · skip
                              refine gIf ?_
                              refine gTest ?_
                              refine gOp ?_
                              refine gV rfl ?_
                              refine gC ?_
                              refine ⟨_, _, rfl, rfl, ?_⟩
                              refine ⟨(decide (k8 > (0 : Int))), rfl, ?_⟩
                              refine ite2 (fun c11 => ?_) (fun c11 => ?_)
                              · skip
                                refine gOp ?_
                                refine gV rfl ?_
                                refine gC ?_
                                refine ⟨_, _, rfl, rfl, ?_⟩
                                exact ⟨G14, (Ext.refl _), S17, congrArg V.int (if_pos c11).symm⟩
                              · skip
                                refine gC ?_
                                exact ⟨G14, (Ext.refl _), S17, congrArg V.int (if_neg c11).symm⟩
                            · intro v17 H16 hJ
                              obtain ⟨G15, e15, S18, rfl⟩ := hJ
                              have h91 := R.up e15 h82
                              have h92 := R.up e15 h83
                              have h93 := R.up e15 h84
                              have h94 := R.up e15 h85
                              have h95 := R.up e15 h86
                              have h96 := R.up e15 h87
                              have h97 := R.up e15 h88
                              have E15 := E14.trans e15
                              refine ⟨_, _, rfl, rfl, ?_⟩
                              refine gS_AsgN ?_
                              refine gCall ?_
                              refine gCons' ?_
                              refine gV rfl ?_
                              refine gCons' ?_
                              refine gV rfl ?_
                              refine gCons' ?_
                              refine gOp ?_
                              refine gV rfl ?_
                              refine gV rfl ?_
                              obtain ⟨x9, hq11, hm28⟩ := bindS hm27
                              refine q_ixL S18 h91 hq11 (fun v18 h98 => ?_)
                              obtain rfl := (show v18 = (V.int x9) from h98)
                              refine gNil' ?_
                              obtain ⟨r4, hq12, hm29⟩ := bindS hm28
                              refine ⟨G15, (O), measure1, pen4, x9, rfl, S18, r4, hq12, fun v19 G16 H17 e16 S19 h99 => ?_⟩
                              have h100 := R.up e16 h91
                              have h101 := R.up e16 h92
                              have h102 := R.up e16 h93
                              have h103 := R.up e16 h94
                              have h104 := R.up e16 h95
                              have h105 := R.up e16 h96
                              have h106 := R.up e16 h97
                              have E16 := E15.trans e16
                              refine gS_AsgN ?_
                              refine gCB ?_
                              refine gCons' ?_
                              refine gV rfl ?_
                              refine gCons' ?_
                              refine gOp ?_
                              refine gV rfl ?_
                              refine gC ?_
                              refine ⟨_, _, rfl, rfl, ?_⟩
                              refine gNil' ?_
                              refine ⟨_, _, rfl, ?_⟩
                              refine gS_IfS ?_
                              refine gNot ?_
                              refine gB ?_
                              refine gCall ?_
                              refine gCons' ?_
                              refine gV rfl ?_
                              refine gCons' ?_
                              refine gV rfl ?_
                              refine gCons' ?_
                              refine gOp ?_
                              refine gV rfl ?_
                              refine gC ?_
                              refine ⟨_, _, rfl, rfl, ?_⟩
                              refine gNil' ?_
                              obtain ⟨r5, hq13, hm30⟩ := bindS hm29
                              refine ⟨G16, (O), v19, r4, (if (measure1 + (1 : Int)) < (x8 + (if (decide (k8 > (0 : Int))) then (end4 + (1 : Int)) else (0 : Int))) then (measure1 + (1 : Int)) else (x8 + (if (decide (k8 > (0 : Int))) then (end4 + (1 : Int)) else (0 : Int)))), (decide (k8 = (0 : Int))), rfl, S19, h99, r5, hq13, fun G17 H18 e17 S20 => ?_⟩
                              have h107 := R.up e17 h100
                              have h108 := R.up e17 h101
                              have h109 := R.up e17 h102
                              have h110 := R.up e17 h103
                              have h111 := R.up e17 h104
                              have h112 := R.up e17 h99
                              have h113 := R.up e17 h105
                              have h114 := R.up e17 h106
                              have E17 := E16.trans e17
                              refine ⟨r5, rfl, ?_⟩
                              refine ite2 (fun c12 => ?_) (fun c12 => ?_)
                              · skip
                                have hm31 := (if_pos c12).symm.trans hm30
                                refine gRet ?_
                                refine gC ?_
                                cases hm31
                                have hr8 := Option.some.inj (show some (Fl.rt _) = some res2 from hr3)
                                subst hr8
                                dsimp only at hm11
                                cases hm11
                                have hr9 := Option.some.inj (show some (Fl.rt _) = some res1 from hr1)
                                subst hr9
                                dsimp only at hm7
                                cases hm7
                                exact q G17 H18 E17 S20
                              · skip
                                have hm32 := (if_neg c12).symm.trans hm30
                                refine gNext ?_
                                refine gE ?_
                                refine gAsgN ?_
                                refine gOp ?_
                                refine gV rfl ?_
                                refine gC ?_
                                refine ⟨_, _, rfl, rfl, ?_⟩
                                cases hm32
                                exact ⟨_, ⟨G17, _, _, _, (((((e8.trans e13).trans e14).trans e15).trans e16).trans e17), S20, rfl⟩, hr3⟩
                  · intro s σ H h1 h2
                    obtain ⟨G, k5, k6, k7, ie, irest⟩ := h2
                    exact ⟨s, h1, G, k5, k6, k7, (ie), irest⟩
                · intro σ3 H19 hJ1
                  obtain ⟨s3, hres1, hJ2⟩ := hJ1
                  subst hres1
                  obtain ⟨place3, pen3, end3⟩ := s3
                  dsimp only at hm11
                  obtain ⟨G18, y15, y16, y17, e18, S21, rfl⟩ := hJ2
                  have h115 := R.up e18 h30
                  have h116 := R.up e18 h31
                  have h117 := R.up e18 h32
                  have h118 := R.up e18 h33
                  have h119 := R.up e18 h34
                  have E18 := E7.trans e18
                  cases hm11
                  exact ⟨_, ⟨G18, _, _, _, _, ((e6.trans e7).trans e18), S21, rfl⟩, hr1⟩
          · intro s σ H h1 h2
            obtain ⟨G, k1, k2, k3, k4, ie, irest⟩ := h2
            exact ⟨s, h1, G, k1, k2, k3, k4, (ie), irest⟩
        · intro σ4 H20 hJ3
          obtain ⟨s4, hres2, hJ4⟩ := hJ3
          subst hres2
          obtain ⟨place1, pen1, end1⟩ := s4
          dsimp only at hm7
          obtain ⟨G19, y18, y19, y20, y21, e19, S22, rfl⟩ := hJ4
          have h120 := R.up e19 h18
          have h121 := R.up e19 h19
          have h122 := R.up e19 h20
          have E19 := E5.trans e19
          refine gRet ?_
          refine gOp ?_
          refine gV rfl ?_
          refine gCB ?_
          refine gCons' ?_
          refine gV rfl ?_
          refine gNil' ?_
          refine q_lenL (y := V.non) S22 h120 ?_
          refine ⟨_, _, rfl, rfl, ?_⟩
          cases hm7
          exact q G19 H20 E19 S22
end
end Mr

set_option Elab.async false
set_option linter.all false
set_option maxRecDepth 100000
set_option maxHeartbeats 4000000
namespace Mr
open PySem PySem.Spec PyProof.Rows L2
section
variable {P : Program} {w : World} {K : PySem.W.Frag} {mg : Str → Option Value} {base : Heap}
theorem sc_law : FnScope ["_law_script", "_law_at", "_law_bag_here", "_law_measure", "_law_widths_here", "_law_handed"] ["_law_script"] (defScope s_law) := ⟨rfl, rfl, rfl, by decide +kernel, rfl, by decide +kernel, by decide +kernel⟩
theorem ok_law (T : Tx K mg) : FnOk P w K mg base CX0 4 (He.fAd K ("law", none)) T.fd_law ["_law_script"] (sp_law K) := by
  have G_law_bag := ok_law_bag (P := P) (w := w) (base := base) T
  have G_law_draw := ok_law_draw (P := P) (w := w) (base := base) T
  have G_law_right := ok_law_right (P := P) (w := w) (base := base) T
  have G_law_widths := ok_law_widths (P := P) (w := w) (base := base) T
  refine T.F_law.ok sc_law (fun vs H Q E h => ?_) (fun cdv A outer s H0 vs Q E hr h => ?_)
  · obtain ⟨G, O, v1, script1, rfl, _⟩ := h
    rfl
  · obtain ⟨G0, O, v1, script1, rfl, S0, h1, res, hm, q⟩ := h
    refine ⟨_, PSs.nox (pss_cons (ps_cut (ps_for PassesOwn.never rfl (pi_range1 (by rfl) T.z_range (pa_cons (pe_callB (call_max2 rfl) (by rfl) T.z_max boot_max (pa_cons pe_int (pa_cons (pe_callB (call_min2 rfl) (by rfl) T.z_min boot_min (pa_cons (pe_callB call_lenM (by rfl) T.z_len boot_len (pa_cons (pv 0) pa_nil)) (pa_cons pe_int pa_nil))) pa_nil))) pa_nil)) (pg_name (i := 1) sc_law.nd rfl (.inl rfl))
      (pss_cons (ps_set (i := 2) sc_law.nd rfl (.inl rfl) (pe_call G_law_bag (hr.mono (by decide)) (by rfl) T.g_law_bag T.F_law_bag.kp T.b_law_bag .nil pass0 (pa_cons (pv 0) (pa_cons (pv 1) pa_nil))))
      (pss_cons (ps_set (i := 3) sc_law.nd rfl (.inl rfl) (pe_op op_add pe_int (pe_cut (pe_ifExp (pt_cmpR op_eqI (pe_call G_law_draw (hr.mono (by decide)) (by rfl) T.g_law_draw T.F_law_draw.kp T.b_law_draw .nil pass0 (pa_cons (pv 2) (pa_cons pe_int pa_nil))) pe_int (nomark _)) (pe_call G_law_draw (hr.mono (by decide)) (by rfl) T.g_law_draw T.F_law_draw.kp T.b_law_draw .nil pass0 (pa_cons (pv 2) (pa_cons (pe_op op_pow pe_int pe_int) pa_nil))) (pe_call G_law_draw (hr.mono (by decide)) (by rfl) T.g_law_draw T.F_law_draw.kp T.b_law_draw .nil pass0 (pa_cons (pv 2) (pa_cons pe_int pa_nil)))))))
      (pss_cons (ps_set (i := 4) sc_law.nd rfl (.inl rfl) (pe_call G_law_widths (hr.mono (by decide)) (by rfl) T.g_law_widths T.F_law_widths.kp T.b_law_widths .nil pass0 (pa_cons (pv 2) (pa_cons (pv 3) pa_nil))))
      (pss_cons (ps_set (i := 5) sc_law.nd rfl (.inl rfl) (pe_cut (pe_ifExp (pt_cmpR op_eqI (pe_call G_law_draw (hr.mono (by decide)) (by rfl) T.g_law_draw T.F_law_draw.kp T.b_law_draw .nil pass0 (pa_cons (pv 2) (pa_cons pe_int pa_nil))) pe_int (nomark _)) (pe_callTy call_tupOf (by rfl) T.z_tuple boot_tuple (pa_cons (pv 4) pa_nil)) (pe_callTy call_listOf (by rfl) T.z_list boot_list (pa_cons (pv 4) pa_nil)))))
      (pss_one (ps_if (pt_not (pt_val (pe_call G_law_right (hr.mono (by decide)) (by rfl) T.g_law_right T.F_law_right.kp T.b_law_right .nil pass0 (pa_cons (pv 3) (pa_cons (pv 4) (pa_cons (pv 5) pa_nil)))))) (pss_one (ps_ret pe_bl)) pss_nil))))))))
      (pss_one (ps_ret pe_bl))), ?_⟩
    have E0 := Ext.refl G0
    have hm0 : (Option.bind (rngM (if (if (24 : Int) < (script1.length : Int) then (24 : Int) else (script1.length : Int)) > (1 : Int) then (if (24 : Int) < (script1.length : Int) then (24 : Int) else (script1.length : Int)) else (1 : Int))) fun xs1 =>
  Option.bind (forL (m_law_b1 script1) xs1 ()) fun res => match res with
  | Fl.rt r => some r
  | Fl.nx _ => some true) = some res := hm
    obtain ⟨xs1, hq1, hm1⟩ := bindS hm0
    obtain ⟨res1, hl1, hm2⟩ := bindS hm1
    refine gS_CS (fun (σ : L2.St) (H : Hp) => ∃ s : Unit, res1 = Fl.nx s ∧ ∃ (G : Hp) (y1 : Option V) (y2 : Option V) (y3 : Option V) (y4 : Option V) (y5 : Option V), Ext G0 G ∧ Sub G (O) H ∧ σ = [some v1, y1, y2, y3, y4, y5]) ?_ ?_
    · skip
      refine gFor ?_
      refine gIR ?_
      refine gCons' ?_
      refine gCB ?_
      refine gCons' ?_
      refine gC ?_
      refine gCons' ?_
      refine gCB ?_
      refine gCons' ?_
      refine gCB ?_
      refine gCons' ?_
      refine gV rfl ?_
      refine gNil' ?_
      refine q_lenL (y := V.non) S0 h1 ?_
      refine gCons' ?_
      refine gC ?_
      refine gNil' ?_
      refine ⟨_, _, rfl, ?_⟩
      refine gNil' ?_
      refine ⟨_, _, rfl, ?_⟩
      refine gNil' ?_
      refine lp_R hq1 hl1 (fun (s : Unit) (σ : L2.St) (H : Hp) => ∃ (G : Hp) (y1 : Option V) (y2 : Option V) (y3 : Option V) (y4 : Option V) (y5 : Option V), Ext G0 G ∧ Sub G (O) H ∧ σ = [some v1, y1, y2, y3, y4, y5]) ⟨G0, _, _, _, _, _, (Ext.refl _), S0, rfl⟩ ?_ ?_
      · intro i1 x1 s1 b1 hb1 hr1 σ1 H1 hI1
        obtain ⟨G1, y6, y7, y8, y9, y10, e1, S1, rfl⟩ := hI1
        have h3 := R.up e1 h1
        have E1 := E0.trans e1
        have hm3 : (Option.bind (m_law_bag script1 x1) fun r1 =>
  Option.bind (Option.bind (m_law_draw r1 (4 : Int)) fun (r2, r3) =>
  if (decide (r2 = (3 : Int))) then (Option.bind (m_law_draw r3 ((10 : Int) ^ (12 : Int).toNat)) fun (r4, r5) =>
  some (r4, r5)) else (Option.bind (m_law_draw r3 (9 : Int)) fun (r6, r7) =>
  some (r6, r7))) fun (x2, bag_here1) =>
  Option.bind (m_law_widths bag_here1 ((1 : Int) + x2)) fun (r14, bag_here2) =>
  Option.bind (Option.bind (m_law_draw bag_here2 (2 : Int)) fun (r15, bag_here3) =>
  if (decide (r15 = (1 : Int))) then (some (r14, bag_here3)) else (some (r14, bag_here3))) fun (x3, bag_here4) =>
  Option.bind (m_law_right ((1 : Int) + x2) r14 x3) fun r17 =>
  if (!r17) then (some (Bf.rt false))
  else (some (Bf.go ()))) = some b1 := hb1
        refine gS_AsgN ?_
        refine gCall ?_
        refine gCons' ?_
        refine gV rfl ?_
        refine gCons' ?_
        refine gV rfl ?_
        refine gNil' ?_
        obtain ⟨r1, hq2, hm4⟩ := bindS hm3
        refine ⟨G1, (O), v1, script1, x1, rfl, S1, h3, r1, hq2, fun a1 w1 G2 H2 e2 S2 h4 => ?_⟩
        have h5 := R.up e2 h3
        have E2 := E1.trans e2
        refine gS_AsgN ?_
        refine gOp ?_
        refine gC ?_
        obtain ⟨⟨x2, bag_here1⟩, hq6, hm8⟩ := bindS hm4
        dsimp only at hm8
        refine gCE (fun (v : V) (H : Hp) => ∃ (G : Hp) (w5 : List V), Ext G2 G ∧ Sub G ((a1, HO.lst w5) :: O) H ∧ v = (V.int x2) ∧ Al rInt G w5 bag_here1) ?_ ?_
        · skip
          refine gIf ?_
          refine gTest ?_
          refine gOp ?_
          refine gCall ?_
          refine gCons' ?_
          refine gV rfl ?_
          refine gCons' ?_
          refine gC ?_
          refine gNil' ?_
          obtain ⟨⟨r8, r9⟩, hq7, hm9⟩ := bindS hq6
          dsimp only at hm9
          refine ⟨G2, (O), a1, w1, r1, (4 : Int), rfl, S2, h4, (r8, r9), hq7, fun G6 H6 w6 e6 S6 h12 => ?_⟩
          have h13 := R.up e6 h5
          have E6 := E2.trans e6
          refine gC ?_
          refine ⟨_, _, rfl, rfl, ?_⟩
          refine ⟨(decide (r8 = (3 : Int))), rfl, ?_⟩
          refine ite2 (fun c1 => ?_) (fun c1 => ?_)
          · skip
            have hm10 := (if_pos c1).symm.trans hm9
            refine gCall ?_
            refine gCons' ?_
            refine gV rfl ?_
            refine gCons' ?_
            refine gOp ?_
            refine gC ?_
            refine gC ?_
            refine ⟨_, _, rfl, rfl, ⟨by decide, by decide, by decide⟩, ?_⟩
            refine gNil' ?_
            obtain ⟨⟨r10, r11⟩, hq8, hm11⟩ := bindS hm10
            dsimp only at hm11
            refine ⟨G6, (O), a1, w6, r9, ((10 : Int) ^ (12 : Int).toNat), rfl, S6, h12, (r10, r11), hq8, fun G7 H7 w7 e7 S7 h14 => ?_⟩
            have h15 := R.up e7 h13
            have E7 := E6.trans e7
            cases hm11
            exact ⟨G7, w7, (e6.trans e7), S7, rfl, h14⟩
          · skip
            have hm12 := (if_neg c1).symm.trans hm9
            refine gCall ?_
            refine gCons' ?_
            refine gV rfl ?_
            refine gCons' ?_
            refine gC ?_
            refine gNil' ?_
            obtain ⟨⟨r12, r13⟩, hq9, hm13⟩ := bindS hm12
            dsimp only at hm13
            refine ⟨G6, (O), a1, w6, r9, (9 : Int), rfl, S6, h12, (r12, r13), hq9, fun G8 H8 w8 e8 S8 h16 => ?_⟩
            have h17 := R.up e8 h13
            have E8 := E6.trans e8
            cases hm13
            exact ⟨G8, w8, (e6.trans e8), S8, rfl, h16⟩
        · intro v3 H9 hJ
          obtain ⟨G9, w9, e9, S9, rfl, h19⟩ := hJ
          have h20 := R.up e9 h5
          have E9 := E2.trans e9
          refine ⟨_, _, rfl, rfl, ?_⟩
          refine gS_AsgN ?_
          refine gCall ?_
          refine gCons' ?_
          refine gV rfl ?_
          refine gCons' ?_
          refine gV rfl ?_
          refine gNil' ?_
          obtain ⟨⟨r14, bag_here2⟩, hq10, hm14⟩ := bindS hm8
          dsimp only at hm14
          refine ⟨G9, (O), a1, w9, bag_here1, ((1 : Int) + x2), rfl, S9, h19, (r14, bag_here2), hq10, fun v4 G10 H10 w10 e10 S10 h21 h22 => ?_⟩
          have h23 := R.up e10 h20
          have E10 := E9.trans e10
          refine gS_AsgN ?_
          obtain ⟨⟨x3, bag_here4⟩, hq12, hm16⟩ := bindS hm14
          dsimp only at hm16
          refine gCE (fun (v : V) (H : Hp) => ∃ (G : Hp) (w12 : List V), Ext G10 G ∧ Sub G ((a1, HO.lst w12) :: O) H ∧ R.rel (rQ K rInt) G v x3 ∧ Al rInt G w12 bag_here4) ?_ ?_
          · skip
            refine gIf ?_
            refine gTest ?_
            refine gOp ?_
            refine gCall ?_
            refine gCons' ?_
            refine gV rfl ?_
            refine gCons' ?_
            refine gC ?_
            refine gNil' ?_
            obtain ⟨⟨r16, bag_here5⟩, hq13, hm17⟩ := bindS hq12
            dsimp only at hm17
            refine ⟨G10, (O), a1, w10, bag_here2, (2 : Int), rfl, S10, h22, (r16, bag_here5), hq13, fun G14 H14 w13 e14 S14 h35 => ?_⟩
            have h36 := R.up e14 h23
            have h37 := R.up e14 h21
            have E14 := E10.trans e14
            refine gC ?_
            refine ⟨_, _, rfl, rfl, ?_⟩
            refine ⟨(decide (r16 = (1 : Int))), rfl, ?_⟩
            refine ite2 (fun c2 => ?_) (fun c2 => ?_)
            · skip
              have hm18 := (if_pos c2).symm.trans hm17
              refine gCB ?_
              refine gCons' ?_
              refine gV rfl ?_
              refine gNil' ?_
              refine q_tupL S14 h37 (fun v7 G15 H15 e15 S15 h38 => ?_)
              have h39 := R.up e15 h36
              have h40 := Al.up e15 h35
              have h41 := R.up e15 h37
              have E15 := E14.trans e15
              cases hm18
              exact ⟨G15, w13, (e14.trans e15), S15, (rT_Q h38), h40⟩
            · skip
              have hm19 := (if_neg c2).symm.trans hm17
              refine gCB ?_
              refine gCons' ?_
              refine gV rfl ?_
              refine gNil' ?_
              refine q_listQ S14 (rL_Q h37) (fun v8 G16 H16 e16 S16 h42 => ?_)
              have h43 := R.up e16 h36
              have h44 := Al.up e16 h35
              have h45 := R.up e16 h37
              have E16 := E14.trans e16
              cases hm19
              exact ⟨G16, w13, (e14.trans e16), S16, (rL_Q h42), h44⟩
          · intro v9 H17 hJ
            obtain ⟨G17, w14, e17, S17, h46, h47⟩ := hJ
            have h48 := R.up e17 h23
            have h49 := R.up e17 h21
            have E17 := E10.trans e17
            refine gIfS ?_
            refine gNot ?_
            refine gB ?_
            refine gCall ?_
            refine gCons' ?_
            refine gV rfl ?_
            refine gCons' ?_
            refine gV rfl ?_
            refine gCons' ?_
            refine gV rfl ?_
            refine gNil' ?_
            obtain ⟨r17, hq14, hm20⟩ := bindS hm16
            refine ⟨G17, ((a1, HO.lst w14) :: O), ((1 : Int) + x2), v4, r14, v9, x3, rfl, S17, h49, h46, r17, hq14, fun G18 H18 e18 S18 => ?_⟩
            have h50 := R.up e18 h48
            have h51 := Al.up e18 h47
            have h52 := R.up e18 h49
            have h53 := R.up e18 h46
            have E18 := E17.trans e18
            refine ⟨r17, rfl, ?_⟩
            refine ite2 (fun c3 => ?_) (fun c3 => ?_)
            · skip
              have hm21 := (if_pos c3).symm.trans hm20
              refine gRet ?_
              refine gC ?_
              have S19 := S18.tail
              cases hm21
              have hr2 := Option.some.inj (show some (Fl.rt _) = some res1 from hr1)
              subst hr2
              dsimp only at hm2
              cases hm2
              exact q G18 H18 E18 S19
            · skip
              have hm22 := (if_neg c3).symm.trans hm20
              refine gNext ?_
              have S20 := S18.tail
              cases hm22
              exact ⟨_, ⟨G18, _, _, _, _, _, (((((e1.trans e2).trans e9).trans e10).trans e17).trans e18), S20, rfl⟩, hr1⟩
      · intro s σ H h1 h2
        obtain ⟨G, k1, k2, k3, k4, k5, ie, irest⟩ := h2
        exact ⟨s, h1, G, k1, k2, k3, k4, k5, (ie), irest⟩
    · intro σ2 H19 hJ1
      obtain ⟨s2, hres1, hJ2⟩ := hJ1
      subst hres1
      dsimp only at hm2
      obtain ⟨G19, y11, y12, y13, y14, y15, e19, S21, rfl⟩ := hJ2
      have h54 := R.up e19 h1
      have E19 := E0.trans e19
      refine gRet ?_
      refine gC ?_
      cases hm2
      exact q G19 H19 E19 S21
end
end Mr

set_option linter.all false
set_option maxRecDepth 100000
set_option maxHeartbeats 1000000
/-! DrawP: the law's source of draws. -/
namespace Mr
theorem bindOk {α β : Type} {o : Option α} {f : α → Option β} {a : α} {r : Option β} (h : o = some a) (h2 : f a = r) : o.bind f = r := by
  subst h; exact h2
theorem modM_pos {a b : Int} (h : 0 < b) : modM a b = some (a % b) := if_pos h
theorem fdivM_ok {a b : Int} (h : 0 < b) (h2 : b.natAbs.log2 < 9000) : fdivM a b = some (a / b) := if_pos ⟨h, h2⟩
theorem appM_ok {α : Type} {xs : List α} {x : α} (h : xs.length < 100000) : appM xs x = some (xs ++ [x]) := if_pos h
theorem getM_nat {α : Type} {xs : List α} {j : Nat} {x : α} (h : xs[j]? = some x) : getM xs (j : Int) = some x := by
  have hj : j < xs.length := (List.getElem?_eq_some_iff.mp h).1
  unfold getM ixM
  rw [if_pos (by omega), if_pos (by omega)]
  simpa using h
theorem rngM_ok {n : Int} (h : 0 ≤ n) (h2 : n < 2 ^ 62) : rngM n = some ((List.range n.toNat).map fun (i : Nat) => (i : Int)) := if_pos ⟨by omega, h2⟩
theorem folM_inv {α σ : Type} {f : σ → α → Option σ} (P : σ → Prop) : ∀ (xs : List α) (s : σ), P s → (∀ x ∈ xs, ∀ s, P s → ∃ s', f s x = some s' ∧ P s') → ∃ s', folM f xs s = some s' ∧ P s'
  | [], s, h, _ => ⟨s, rfl, h⟩
  | x :: xs, s, h, hs => by
    obtain ⟨s1, h1, p1⟩ := hs x (List.mem_cons_self ..) s h
    obtain ⟨s2, h2, p2⟩ := folM_inv P xs s1 p1 fun y hy => hs y (List.mem_cons_of_mem _ hy)
    exact ⟨s2, bindOk h1 h2, p2⟩
theorem forL_inv {α σ ρ : Type} {f : σ → α → Option (Bf σ ρ)} (P : σ → Prop) : ∀ (xs : List α) (s : σ), P s → (∀ x ∈ xs, ∀ s, P s → ∃ s', f s x = some (.go s') ∧ P s') → ∃ s', forL f xs s = some (.nx s') ∧ P s'
  | [], s, h, _ => ⟨s, rfl, h⟩
  | x :: xs, s, h, hs => by
    obtain ⟨s1, h1, p1⟩ := hs x (List.mem_cons_self ..) s h
    obtain ⟨s2, h2, p2⟩ := forL_inv P xs s1 p1 fun y hy => hs y (List.mem_cons_of_mem _ hy)
    exact ⟨s2, bindOk h1 h2, p2⟩
/-- all turns go on -/
def goL {α σ ρ : Type} (f : σ → α → Option (Bf σ ρ)) : List α → σ → Option σ
  | [], s => some s
  | x :: xs, s => match f s x with
    | some (.go s') => goL f xs s'
    | _ => none
theorem goL_cons {α σ ρ : Type} {f : σ → α → Option (Bf σ ρ)} {x : α} {xs : List α} {s s' : σ} (h : f s x = some (.go s')) : goL f (x :: xs) s = goL f xs s' := by
  show (match f s x with
    | some (.go s') => goL f xs s'
    | _ => none) = _
  rw [h]
theorem goL_for {α σ ρ : Type} {f : σ → α → Option (Bf σ ρ)} : ∀ {xs : List α} {s r : σ}, goL f xs s = some r → forL f xs s = some (.nx r)
  | [], s, r, h => by cases h; rfl
  | x :: xs, s, r, h => by
    have h' : (match f s x with
      | some (.go s') => goL f xs s'
      | _ => none) = some r := h
    split at h'
    · rename_i s' e
      exact bindOk e (goL_for h')
    · cases h'
theorem goL_app {α σ ρ : Type} {f : σ → α → Option (Bf σ ρ)} : ∀ {xs ys : List α} {s s1 : σ}, goL f xs s = some s1 → goL f (xs ++ ys) s = goL f ys s1
  | [], ys, s, s1, h => by cases h; rfl
  | x :: xs, ys, s, s1, h => by
    have h' : (match f s x with
      | some (.go s') => goL f xs s'
      | _ => none) = some s1 := h
    split at h'
    · rename_i s' e
      rw [List.cons_append, goL_cons e]
      exact goL_app h'
    · cases h'
theorem enumF_app {α : Type} : ∀ (xs ys : List α) (k : Nat), enumF k (xs ++ ys) = enumF k xs ++ enumF (k + xs.length) ys
  | [], ys, k => rfl
  | x :: xs, ys, k => by
    show ((k : Int), x) :: enumF (k + 1) (xs ++ ys) = ((k : Int), x) :: (enumF (k + 1) xs ++ enumF (k + (xs.length + 1)) ys)
    rw [enumF_app xs ys (k + 1)]
    have e : k + 1 + xs.length = k + (xs.length + 1) := by omega
    rw [e]
theorem log2_lt {n m : Nat} (h : n < 2 ^ m) (hm : 0 < m) : n.log2 < m := by
  by_cases h0 : n = 0
  · subst h0; simpa using hm
  · exact (Nat.log2_lt h0).mpr h

/-! ### bags -/
def BagOk (b : List Int) : Prop := ∃ g m c : Int, b = [g, m, c]
theorem draw_ok {b : List Int} {n : Int} (hb : BagOk b) (h0 : 0 < n) (h1 : n < 2 ^ 60) : ∃ x b', m_law_draw b n = some (x, b') ∧ 0 ≤ x ∧ x < n ∧ BagOk b' := by
  obtain ⟨g, m, c, rfl⟩ := hb
  have hl : n.natAbs.log2 < 9000 := Nat.lt_of_lt_of_le (log2_lt (m := 60) (by omega) (by decide)) (by decide)
  unfold m_law_draw
  by_cases hg : decide (g > 0) = true
  · exact ⟨g % n, [g / n, m, c], bindOk (a := g) rfl ((if_pos hg).trans (bindOk (a := g) rfl (bindOk (modM_pos h0) (bindOk (a := g) rfl (bindOk (fdivM_ok h0 hl) (bindOk (a := [g / n, m, c]) rfl rfl)))))),
      Int.emod_nonneg _ (by omega), Int.emod_lt_of_pos _ h0, _, _, _, rfl⟩
  · refine ⟨_, [g, (m * 48271 + 11 * (c + 1) + 7) % 2147483647, c + 1], bindOk (a := g) rfl ((if_neg hg).trans (bindOk (a := c) rfl (bindOk (a := [g, m, c + 1]) rfl (bindOk (a := m) rfl (bindOk (a := c + 1) rfl (bindOk (a := [g, (m * 48271 + 11 * (c + 1) + 7) % 2147483647, c + 1]) rfl
      (bindOk (a := (m * 48271 + 11 * (c + 1) + 7) % 2147483647) rfl (bindOk (a := c + 1) rfl (bindOk (modM_pos h0) rfl))))))))), ?_, ?_, _, _, _, rfl⟩
    · exact Int.emod_nonneg _ (by omega)
    · exact Int.emod_lt_of_pos _ h0
theorem bag_ok {ns : List Int} {j : Nat} : ∃ b, m_law_bag ns (j : Int) = some b ∧ BagOk b := by
  unfold m_law_bag
  obtain ⟨m, hm, _⟩ := folM_inv (f := m_law_bag_b1) (fun _ => True) (enumM (cutM ns none (some (63 : Int)))) ((1009 : Int) + ((77 : Int) * (j : Int))) True.intro (fun x _ s _ => ⟨_, rfl, True.intro⟩)
  by_cases h : decide ((j : Int) < (ns.length : Int)) = true
  · have hj : j < ns.length := by have := of_decide_eq_true h; omega
    exact ⟨_, bindOk ((if_pos h).trans (bindOk (getM_nat (List.getElem?_eq_getElem hj)) rfl)) (bindOk hm rfl), _, _, _, rfl⟩
  · exact ⟨_, bindOk (if_neg h) (bindOk hm rfl), _, _, _, rfl⟩
end Mr

set_option linter.all false
set_option maxRecDepth 100000
set_option maxHeartbeats 1000000
/-! k22: what the mirrors compute answers True. -/
namespace Mr
theorem number_ok (x : Int) : m_law_number x = some true := rfl
theorem pair_right_ok (a b : Int) : m_law_pair_right (a, b) a b = some true := by
  unfold m_law_pair_right
  simp [m_law_number]
theorem pen_right_ok (a : Int) (b : Bool) : m_law_pen_right (a, b) a b = some true := by
  unfold m_law_pen_right
  simp [m_law_number]
def mn (a b : Int) : Int := if b < a then b else a
/-- one item of a line is right -/
theorem item_ok {M : Int} {W : List Int} {n : Nat} {w pen pm : Int} {k : Int} (hw : W[n]? = some w) (h1 : 1 ≤ w) (hk0 : 0 ≤ k)
    (hpm : pm = mn pen (M + 1)) (hpen : 0 < n → 0 < pen) (hp0 : n = 0 → pen = 0)
    (hk : 0 < k ↔ (0 < n ∧ pen + 1 + w ≤ M)) :
    m_law_right_b2 M W ((n : Int), pm, pen) (k, ((n : Int), if 0 < k then pen + 1 else 0)) =
      some (.go ((n : Int) + 1, mn (w + (if 0 < k then pen + 1 else 0)) (M + 1), w + (if 0 < k then pen + 1 else 0))) := by
  have hn : n < W.length := (List.getElem?_eq_some_iff.mp hw).1
  have g := getM_nat hw
  unfold m_law_right_b2
  dsimp only
  have e1 : (if decide ((k : Int) > 0) = true then pen + 1 else (0 : Int)) = if 0 < k then pen + 1 else 0 := by
    by_cases h : 0 < k
    · rw [if_pos h, if_pos (decide_eq_true h)]
    · rw [if_neg h, if_neg (by simpa using h)]
  rw [e1]
  have d1 : ¬ decide ((n : Int) ≥ (W.length : Int)) = true := by simp; omega
  rw [if_neg d1]
  refine bindOk (bindOk (pair_right_ok _ _) rfl) ?_
  rw [if_neg (by simp)]
  by_cases hkk : 0 < k
  · obtain ⟨hn0, hfit⟩ := hk.mp hkk
    have hp := hpen hn0
    rw [if_pos hkk]
    refine bindOk (a := true) ?_ ?_
    · rw [if_pos (by simp; omega)]
      exact bindOk g (by simp [hfit])
    rw [if_neg (by simp [hkk])]
    refine bindOk g (bindOk g ?_)
    have hpm2 : pm = pen := by rw [hpm]; unfold mn; rw [if_neg (by omega)]
    have e2 : m_pen_after M pm w = some (pen + 1 + w, false) := by
      unfold m_pen_after
      rw [hpm2, if_pos (by simp; omega)]
    refine bindOk e2 ?_
    have e3 : (if M + 1 < w + (pen + 1) then M + 1 else w + (pen + 1)) = pen + 1 + w := by
      rw [if_neg (by omega)]; omega
    have e4 : decide (k = 0) = false := decide_eq_false (by omega)
    rw [e3, e4]
    refine bindOk (pen_right_ok _ _) ?_
    rw [if_neg (by simp)]
    have e5 : mn (w + (pen + 1)) (M + 1) = pen + 1 + w := by unfold mn; rw [e3]
    rw [e5]
  · have hk0' : k = 0 := by omega
    rw [if_neg hkk]
    refine bindOk (a := false) ?_ ?_
    · by_cases hn0 : 0 < n
      · rw [if_pos (by simp; omega)]
        refine bindOk g ?_
        have : ¬ pen + 1 + w ≤ M := fun h => hkk (hk.mpr ⟨hn0, h⟩)
        simp [this]
      · rw [if_neg (by simp; omega)]
    rw [if_neg (by simp [hkk])]
    refine bindOk g (bindOk g ?_)
    have e2 : m_pen_after M pm w = some (mn w (M + 1), true) := by
      unfold m_pen_after
      by_cases hn0 : 0 < n
      · have hp := hpen hn0
        have hno : ¬ pen + 1 + w ≤ M := fun h => hkk (hk.mpr ⟨hn0, h⟩)
        have : ¬ pm + 1 + w ≤ M := by
          rw [hpm]; unfold mn
          split <;> omega
        rw [if_neg (by simp [this])]
        rfl
      · have : pen = 0 := hp0 (by omega)
        have : ¬ (0 < pm ∧ pm + 1 + w ≤ M) := by
          rw [hpm]; unfold mn
          split <;> omega
        rw [if_neg (by simpa using this)]
        rfl
    refine bindOk e2 ?_
    have e3 : (if M + 1 < w + 0 then M + 1 else w + 0) = mn w (M + 1) := by
      unfold mn
      rw [Int.add_zero]
    have e4 : decide (k = 0) = true := decide_eq_true hk0'
    rw [e3, e4]
    refine bindOk (pen_right_ok _ _) ?_
    rw [if_neg (by simp), Int.add_zero]
/-- the state of the filling behind n words, and what the checks say of it -/
structure FInv (M : Int) (W : List Int) (n : Nat) (lines : List (List (Int × Int))) (line : List (Int × Int)) (pen : Int) : Prop where
  len : lines.length ≤ n
  len2 : line.length ≤ n
  zero : n = 0 → lines = [] ∧ line = [] ∧ pen = 0
  pos : 0 < n → line ≠ [] ∧ 0 < pen
  chk : ∃ s, goL (m_law_right_b1 M W) lines (0, 0, 0) = some s ∧ goL (m_law_right_b2 M W) (enumM line) s = some ((n : Int), mn pen (M + 1), pen)
theorem line_ok {M : Int} {W : List Int} {line : List (Int × Int)} {s s' : Int × Int × Int} (hl : line ≠ []) (h : goL (m_law_right_b2 M W) (enumM line) s = some s') :
    m_law_right_b1 M W s line = some (.go s') := by
  obtain ⟨a, b, c⟩ := s
  obtain ⟨a', b', c'⟩ := s'
  unfold m_law_right_b1
  dsimp only
  rw [if_neg (by simp [hl])]
  exact bindOk (goL_for h) rfl
theorem snoc_ok {M : Int} {W : List Int} {line : List (Int × Int)} {p : Int × Int} {s s1 s2 : Int × Int × Int} (h : goL (m_law_right_b2 M W) (enumM line) s = some s1)
    (h2 : m_law_right_b2 M W s1 ((line.length : Int), p) = some (.go s2)) : goL (m_law_right_b2 M W) (enumM (line ++ [p])) s = some s2 := by
  have h' : goL (m_law_right_b2 M W) (enumF 0 line) s = some s1 := h
  unfold enumM
  rw [enumF_app, goL_app h']
  show goL _ [(((0 + line.length : Nat) : Int), p)] s1 = some s2
  rw [Nat.zero_add, goL_cons h2]
  rfl
theorem turn_ok {M : Int} {W : List Int} {n : Nat} {lines : List (List (Int × Int))} {line : List (Int × Int)} {pen w : Int} (hz : n < 1000) (hM : 0 ≤ M) (I : FInv M W n lines line pen) (hw : W[n]? = some w) (h1 : 1 ≤ w) :
    ∃ lines' line' pen', m_fill_widths_b1 M (lines, line, pen) ((n : Int), w) = some (lines', line', pen') ∧ FInv M W (n + 1) lines' line' pen' := by
  obtain ⟨hl, hl2, h0, hp, s, c1, c2⟩ := I
  have hpen : 0 < n → 0 < pen := fun h => (hp h).2
  have hp0 : n = 0 → pen = 0 := fun h => (h0 h).2.2
  have ec : ((n + 1 : Nat) : Int) = (n : Int) + 1 := by omega
  unfold m_fill_widths_b1
  dsimp only
  by_cases hn : 0 < n
  · obtain ⟨hne, hpp⟩ := hp hn
    by_cases hfit : pen + 1 + w ≤ M
    · -- it joins the line
      have c : ¬ ((!decide (line = [])) && (decide (pen + 1 + w > M))) = true := by simp; intro _; omega
      have it := item_ok (k := (line.length : Int)) hw h1 (by omega) rfl hpen hp0 ⟨fun _ => ⟨hn, hfit⟩, fun _ => by cases line with | nil => exact absurd rfl hne | cons x r => simp⟩
      have hk : 0 < (line.length : Int) := by cases line with | nil => exact absurd rfl hne | cons x r => simp
      rw [if_pos hk] at it
      refine ⟨lines, line ++ [((n : Int), pen + 1)], pen + 1 + w, bindOk (if_neg c) (bindOk (if_neg (by simp [hne])) (bindOk (appM_ok (show line.length < 100000 by omega)) rfl)), ?_, ?_, ?_, ?_, s, c1, ?_⟩
      · omega
      · simp; omega
      · omega
      · exact fun _ => ⟨by simp, by omega⟩
      · have e : w + (pen + 1) = pen + 1 + w := by omega
        rw [e] at it
        rw [ec]
        exact snoc_ok c2 it
    · -- a new line
      have c : ((!decide (line = [])) && (decide (pen + 1 + w > M))) = true := by simp [hne]; omega
      have it := item_ok (k := 0) hw h1 (by omega) rfl hpen hp0 ⟨fun h => absurd h (by omega), fun h => absurd h.2 hfit⟩
      rw [if_neg (by omega)] at it
      refine ⟨lines ++ [line], [((n : Int), 0)], w, bindOk ((if_pos c).trans (bindOk (appM_ok (by omega)) rfl)) (bindOk (if_pos (by simp)) (bindOk (a := [((n : Int), 0)]) rfl (by simp))), ?_, ?_, ?_, ?_, ((n : Int), mn pen (M + 1), pen), ?_, ?_⟩
      · simp; omega
      · simp
      · omega
      · exact fun _ => ⟨by simp, by omega⟩
      · rw [goL_app c1, goL_cons (line_ok hne c2)]
        rfl
      · rw [ec]
        show goL _ [((0 : Int), ((n : Int), (0 : Int)))] _ = _
        rw [Int.add_zero] at it
        rw [goL_cons it]
        rfl
  · have hn0 : n = 0 := by omega
    obtain ⟨e1, e2, e3⟩ := h0 hn0
    subst e1 e2 e3
    have it := item_ok (M := M) (k := 0) hw h1 (by omega) rfl hpen hp0 ⟨fun h => absurd h (by omega), fun h => absurd h.1 hn⟩
    rw [if_neg (by omega), Int.add_zero] at it
    refine ⟨[], [((n : Int), 0)], w, bindOk (if_neg (by simp)) (bindOk (if_pos (by simp)) (bindOk (a := [((n : Int), 0)]) rfl (by simp))), ?_, ?_, ?_, ?_, _, c1, ?_⟩
    · simp
    · simp
    · omega
    · exact fun _ => ⟨by simp, by omega⟩
    · have cs : s = ((n : Int), mn 0 (M + 1), 0) := by
        have : some s = some ((n : Int), mn 0 (M + 1), 0) := c2
        exact Option.some.inj this
      rw [ec, cs]
      show goL _ [((0 : Int), ((n : Int), (0 : Int)))] _ = _
      rw [goL_cons it]
      rfl
theorem fill_fold {M : Int} {W : List Int} (hW : W.length ≤ 1000) (h1 : ∀ w ∈ W, 1 ≤ w) (hM : 0 ≤ M) : ∀ (m n : Nat) (lines : List (List (Int × Int))) (line : List (Int × Int)) (pen : Int), m + n = W.length → FInv M W n lines line pen →
    ∃ lines' line' pen', folM (m_fill_widths_b1 M) (enumF n (W.drop n)) (lines, line, pen) = some (lines', line', pen') ∧ FInv M W W.length lines' line' pen'
  | 0, n, lines, line, pen, e, I => by
    have : n = W.length := by omega
    subst this
    rw [List.drop_length]
    exact ⟨lines, line, pen, rfl, I⟩
  | m + 1, n, lines, line, pen, e, I => by
    have hn : n < W.length := by omega
    have hw : W[n]? = some W[n] := List.getElem?_eq_getElem hn
    obtain ⟨l1, l2, p, t1, I1⟩ := turn_ok (by omega) hM I hw (h1 _ (List.getElem_mem hn))
    obtain ⟨l3, l4, p2, t2, I2⟩ := fill_fold hW h1 hM m (n + 1) l1 l2 p (by omega) I1
    refine ⟨l3, l4, p2, ?_, I2⟩
    rw [List.drop_eq_getElem_cons hn]
    exact bindOk t1 t2
theorem right_ok {M : Int} {W : List Int} (hW : W.length ≤ 1000) (h1 : ∀ w ∈ W, 1 ≤ w) (hM : 0 ≤ M) : m_law_right M W W = some true := by
  have hmn : mn 0 (M + 1) = 0 := by unfold mn; rw [if_neg (by omega)]
  obtain ⟨lines, line, pen, hf, hl, hl2, h0, hp, s, c1, c2⟩ := fill_fold hW h1 hM W.length 0 [] [] 0 (by omega) ⟨by simp, by simp, fun _ => ⟨rfl, rfl, rfl⟩, fun h => absurd h (by omega), (0, 0, 0), rfl, by rw [hmn]; rfl⟩
  rw [List.drop_zero] at hf
  have hfold : folM (m_fill_widths_b1 M) (enumM W) ([], [], 0) = some (lines, line, pen) := hf
  -- what fill_widths returns
  have done : ∀ told, m_fill_widths M W = some told → goL (m_law_right_b1 M W) told (0, 0, 0) = some ((W.length : Int), mn pen (M + 1), pen) → m_law_right M W W = some true := by
    intro told ht hc
    unfold m_law_right
    refine bindOk ht (bindOk (a := false) ?_ ?_)
    · rw [if_neg (by simp)]; rfl
    · rw [if_neg (by simp)]
      refine bindOk (goL_for hc) ?_
      show some (decide ((W.length : Int) = (W.length : Int))) = some true
      simp
  by_cases hne : line = []
  · refine done lines ?_ ?_
    · unfold m_fill_widths
      exact bindOk hfold (bindOk (if_neg (by simp [hne])) rfl)
    · rw [c1]
      subst hne
      have : some s = some ((W.length : Int), mn pen (M + 1), pen) := c2
      exact this
  · refine done (lines ++ [line]) ?_ ?_
    · unfold m_fill_widths
      exact bindOk hfold (bindOk ((if_pos (by simp [hne])).trans (bindOk (appM_ok (by omega)) rfl)) rfl)
    · rw [goL_app c1, goL_cons (line_ok hne c2)]
      rfl
/-- the drawn widths -/
theorem widths_ok {b : List Int} {M : Int} (hb : BagOk b) (hM : 0 ≤ M) (hM2 : M < 2 ^ 50) : ∃ W b', m_law_widths b M = some (W, b') ∧ BagOk b' ∧ W.length ≤ 60 ∧ ∀ w ∈ W, 1 ≤ w := by
  obtain ⟨x, b1, e1, _, _, hb1⟩ := draw_ok hb (n := 4) (by decide) (by decide)
  have e2 : ∃ y b2, (if decide (x = 3) = true then Option.bind (m_law_draw b1 61) (fun (r2, bag_here3) => some (r2, bag_here3)) else Option.bind (m_law_draw b1 9) fun (r3, bag_here4) => some (r3, bag_here4)) = some (y, b2) ∧ 0 ≤ y ∧ y ≤ 60 ∧ BagOk b2 := by
    by_cases h : decide (x = 3) = true
    · obtain ⟨y, b2, e, h0, h1, hb2⟩ := draw_ok hb1 (n := 61) (by decide) (by decide)
      exact ⟨y, b2, (if_pos h).trans (bindOk e rfl), h0, by omega, hb2⟩
    · obtain ⟨y, b2, e, h0, h1, hb2⟩ := draw_ok hb1 (n := 9) (by decide) (by decide)
      exact ⟨y, b2, (if_neg h).trans (bindOk e rfl), h0, by omega, hb2⟩
  obtain ⟨y, b2, e2, h0, h1, hb2⟩ := e2
  have loop : ∀ (l : List Int) (bag found : List Int), BagOk bag → found.length + l.length ≤ 60 → (∀ w ∈ found, 1 ≤ w) →
      ∃ bag' found', folM (m_law_widths_b1 M) l (bag, found) = some (bag', found') ∧ BagOk bag' ∧ found'.length ≤ 60 ∧ ∀ w ∈ found', 1 ≤ w := by
    intro l
    induction l with
    | nil => exact fun bag found hb hl hf => ⟨bag, found, rfl, hb, by simpa using hl, hf⟩
    | cons t l ih =>
      intro bag found hb hl hf
      rw [List.length_cons] at hl
      obtain ⟨u, b3, e3, _, _, hb3⟩ := draw_ok hb (n := 2) (by decide) (by decide)
      have e4 : ∃ v, (if decide (u = 1) = true then some ((4 : Int), b3) else some (M + 3, b3)) = some (v, b3) ∧ 0 < v ∧ v < 2 ^ 60 := by
        by_cases h : decide (u = 1) = true
        · exact ⟨4, if_pos h, by decide, by decide⟩
        · exact ⟨M + 3, if_neg h, by omega, by omega⟩
      obtain ⟨v, e4, hv0, hv1⟩ := e4
      obtain ⟨z, b4, e5, hz0, _, hb4⟩ := draw_ok hb3 hv0 hv1
      obtain ⟨bag', found', e6, h6⟩ := ih b4 (found ++ [1 + z]) hb4 (by simp; omega) (fun w hw => by
        rcases List.mem_append.mp hw with h | h
        · exact hf w h
        · rw [List.mem_singleton.mp h]; omega)
      refine ⟨bag', found', ?_, h6⟩
      refine bindOk (a := (b4, found ++ [1 + z])) ?_ e6
      unfold m_law_widths_b1
      dsimp only
      exact bindOk (bindOk e3 e4) (bindOk e5 (bindOk (appM_ok (by omega)) rfl))
  obtain ⟨bag', found', e7, hb7, hl7, hf7⟩ := loop ((List.range y.toNat).map fun (i : Nat) => (i : Int)) b2 [] hb2 (by simp; omega) (by simp)
  refine ⟨found', bag', ?_, hb7, hl7, hf7⟩
  unfold m_law_widths
  exact bindOk (bindOk e1 e2) (bindOk (rngM_ok h0 (by omega)) (bindOk e7 rfl))
theorem cell_ok {ns : List Int} {j : Nat} : m_law_b1 ns () (j : Int) = some (.go ()) := by
  unfold m_law_b1
  obtain ⟨b, e0, hb⟩ := bag_ok (ns := ns) (j := j)
  obtain ⟨x, b1, e1, _, _, hb1⟩ := draw_ok hb (n := 4) (by decide) (by decide)
  have e2 : ∃ y b2, (if decide (x = 3) = true then Option.bind (m_law_draw b1 ((10 : Int) ^ (12 : Int).toNat)) (fun (r4, r5) => some (r4, r5)) else Option.bind (m_law_draw b1 9) fun (r6, r7) => some (r6, r7)) = some (y, b2) ∧ 0 ≤ y ∧ y < 10 ^ 12 ∧ BagOk b2 := by
    by_cases h : decide (x = 3) = true
    · obtain ⟨y, b2, e, h0, h1, hb2⟩ := draw_ok hb1 (n := (10 : Int) ^ (12 : Int).toNat) (by decide) (by decide)
      exact ⟨y, b2, (if_pos h).trans (bindOk e rfl), h0, h1, hb2⟩
    · obtain ⟨y, b2, e, h0, h1, hb2⟩ := draw_ok hb1 (n := 9) (by decide) (by decide)
      exact ⟨y, b2, (if_neg h).trans (bindOk e rfl), h0, by omega, hb2⟩
  obtain ⟨y, b2, e2, h0, h1, hb2⟩ := e2
  obtain ⟨W, b3, e3, hb3, hl, hW⟩ := widths_ok (b := b2) (M := 1 + y) hb2 (by omega) (by omega)
  obtain ⟨u, b4, e4, _, _, hb4⟩ := draw_ok hb3 (n := 2) (by decide) (by decide)
  have e5 : (if decide (u = 1) = true then some (W, b4) else some (W, b4)) = some (W, b4) := by split <;> rfl
  refine bindOk e0 (bindOk (bindOk e1 e2) (bindOk e3 (bindOk (bindOk e4 e5) (bindOk (right_ok (by omega) hW (by omega)) rfl))))
theorem law_plain (ns : List Int) (h : ns.length ≤ 63) : m_law ns = some true := by
  unfold m_law
  have hr : ∃ n : Nat, (if (if (24 : Int) < (ns.length : Int) then (24 : Int) else (ns.length : Int)) > (1 : Int) then (if (24 : Int) < (ns.length : Int) then (24 : Int) else (ns.length : Int)) else (1 : Int)) = (n : Int) ∧ n ≤ 24 := by
    refine ⟨(if (if (24 : Int) < (ns.length : Int) then (24 : Int) else (ns.length : Int)) > (1 : Int) then (if (24 : Int) < (ns.length : Int) then (24 : Int) else (ns.length : Int)) else (1 : Int)).toNat, ?_, ?_⟩
    · split <;> (try split) <;> omega
    · split <;> (try split) <;> omega
  obtain ⟨n, hn, hn2⟩ := hr
  rw [hn]
  refine bindOk (rngM_ok (by omega) (by omega)) ?_
  obtain ⟨s', e, _⟩ := forL_inv (f := m_law_b1 ns) (fun _ => True) ((List.range (n : Int).toNat).map fun (i : Nat) => (i : Int)) () True.intro (fun x hx s _ => by
    obtain ⟨j, _, rfl⟩ := List.mem_map.mp hx
    exact ⟨(), cell_ok, True.intro⟩)
  exact bindOk e rfl
end Mr

set_option Elab.async false
set_option linter.all false
set_option maxRecDepth 100000
set_option maxHeartbeats 4000000
namespace Mr
open PySem PySem.Spec PyProof.Rows L2
def mkD (n : Str) (i : Nat) : He.DefD := ⟨(n, none), n, n, defArgs (top i), defBody (top i), defScope (top i), [], []⟩
def fn : List He.DefD := [mkD "fill_widths" 1, mkD "pen_after" 3, mkD "_law_bag" 5, mkD "_law_draw" 6, mkD "_law_number" 7, mkD "_law_widths" 8, mkD "_law_pair_right" 9, mkD "_law_pen_right" 10, mkD "_law_right" 11, mkD "law" 12]
def fa : List He.Fa := [.glo "fill_widths", .glo "pen_after", .glo "_law_bag", .glo "_law_draw", .glo "_law_number", .glo "_law_widths", .glo "_law_pair_right", .glo "_law_pen_right", .glo "_law_right", .glo "law", .free "abs", .free "bool", .free "enumerate", .free "int", .free "isinstance", .free "len", .free "list", .free "max", .free "min", .free "range", .free "tuple"]
abbrev Rw : PySem.W.OpenRow := PySem.W.OpenLaw.row PySem.Challenge.rw_pressalike_k22_widths_filled
abbrev hk : PySem.W.Hook := He.hookD 4 fa fn
def ob (s : PySem.W.SharedT) : He.AlD := He.obsDG 4 fa fn (HandSHeadRun.getT s)
theorem ob_eq (s : PySem.W.SharedT) : ob s = hk.obs s.abs := He.obsDG_eq (HandSHeadRun.getT_eq s)
theorem run (w : World) : HandSHeadRun.RunEq Rw (PySem.W.view Rw.prog [12]) hk ob 2000 ["fill_widths", "pen_after", "_law_bag", "_law_draw", "_law_number", "_law_widths", "_law_pair_right", "_law_pen_right", "_law_right"] w := by
  intro os
  kernel_rfl
theorem facts {P : Program} {w : World} {K : PySem.W.Frag} {h : Heap} {mg : Str → Option Value} {f : Addr} (X : K.In h) (G : h.Ns mainGlobals mg) (hfa : mg ("law" : Str) = some (.ref f)) (c : He.SaysD fa fn K) :
    ∃ fd : FuncData, (∀ (s : Shared) (v : Value), BindsTo s fd ⟨[v], []⟩ [("_law_script", v)]) ∧ ∀ base : Heap, K.In base → base.Ns mainGlobals mg → FnOk P w K mg base CX0 4 f fd ["_law_script"] (sp_law K) := by
  obtain ⟨fd_fill_widths, F_fill_widths⟩ := c.def_ 0 rfl
  obtain ⟨fd_pen_after, F_pen_after⟩ := c.def_ 1 rfl
  obtain ⟨fd_law_bag, F_law_bag⟩ := c.def_ 2 rfl
  obtain ⟨fd_law_draw, F_law_draw⟩ := c.def_ 3 rfl
  obtain ⟨fd_law_number, F_law_number⟩ := c.def_ 4 rfl
  obtain ⟨fd_law_widths, F_law_widths⟩ := c.def_ 5 rfl
  obtain ⟨fd_law_pair_right, F_law_pair_right⟩ := c.def_ 6 rfl
  obtain ⟨fd_law_pen_right, F_law_pen_right⟩ := c.def_ 7 rfl
  obtain ⟨fd_law_right, F_law_right⟩ := c.def_ 8 rfl
  obtain ⟨fd_law, F_law⟩ := c.def_ 9 rfl
  let T : Tx K mg := {
    fd_fill_widths := fd_fill_widths
    F_fill_widths := F_fill_widths
    g_fill_widths := He.glo_ok X G (c.fact 0 rfl)
    b_fill_widths := F_fill_widths.bindsN fun _ _ _ _ _ _ us hl => (match us, hl with | [_, _], _ => rfl)
    fd_pen_after := fd_pen_after
    F_pen_after := F_pen_after
    g_pen_after := He.glo_ok X G (c.fact 1 rfl)
    b_pen_after := F_pen_after.bindsN fun _ _ _ _ _ _ us hl => (match us, hl with | [_, _, _], _ => rfl)
    fd_law_bag := fd_law_bag
    F_law_bag := F_law_bag
    g_law_bag := He.glo_ok X G (c.fact 2 rfl)
    b_law_bag := F_law_bag.bindsN fun _ _ _ _ _ _ us hl => (match us, hl with | [_, _], _ => rfl)
    fd_law_draw := fd_law_draw
    F_law_draw := F_law_draw
    g_law_draw := He.glo_ok X G (c.fact 3 rfl)
    b_law_draw := F_law_draw.bindsN fun _ _ _ _ _ _ us hl => (match us, hl with | [_, _], _ => rfl)
    fd_law_number := fd_law_number
    F_law_number := F_law_number
    g_law_number := He.glo_ok X G (c.fact 4 rfl)
    b_law_number := F_law_number.bindsN fun _ _ _ _ _ _ us hl => (match us, hl with | [_], _ => rfl)
    fd_law_widths := fd_law_widths
    F_law_widths := F_law_widths
    g_law_widths := He.glo_ok X G (c.fact 5 rfl)
    b_law_widths := F_law_widths.bindsN fun _ _ _ _ _ _ us hl => (match us, hl with | [_, _], _ => rfl)
    fd_law_pair_right := fd_law_pair_right
    F_law_pair_right := F_law_pair_right
    g_law_pair_right := He.glo_ok X G (c.fact 6 rfl)
    b_law_pair_right := F_law_pair_right.bindsN fun _ _ _ _ _ _ us hl => (match us, hl with | [_, _, _], _ => rfl)
    fd_law_pen_right := fd_law_pen_right
    F_law_pen_right := F_law_pen_right
    g_law_pen_right := He.glo_ok X G (c.fact 7 rfl)
    b_law_pen_right := F_law_pen_right.bindsN fun _ _ _ _ _ _ us hl => (match us, hl with | [_, _, _], _ => rfl)
    fd_law_right := fd_law_right
    F_law_right := F_law_right
    g_law_right := He.glo_ok X G (c.fact 8 rfl)
    b_law_right := F_law_right.bindsN fun _ _ _ _ _ _ us hl => (match us, hl with | [_, _, _], _ => rfl)
    fd_law := fd_law
    F_law := F_law
    g_law := He.glo_ok X G (c.fact 9 rfl)
    b_law := F_law.bindsN fun _ _ _ _ _ _ us hl => (match us, hl with | [_], _ => rfl)
    z_abs := He.free_ok X G (c.fact 10 rfl)
    z_bool := He.free_ok X G (c.fact 11 rfl)
    z_enumerate := He.free_ok X G (c.fact 12 rfl)
    z_int := He.free_ok X G (c.fact 13 rfl)
    z_isinstance := He.free_ok X G (c.fact 14 rfl)
    z_len := He.free_ok X G (c.fact 15 rfl)
    z_list := He.free_ok X G (c.fact 16 rfl)
    z_max := He.free_ok X G (c.fact 17 rfl)
    z_min := He.free_ok X G (c.fact 18 rfl)
    z_range := He.free_ok X G (c.fact 19 rfl)
    z_tuple := He.free_ok X G (c.fact 20 rfl) }
  have e := hfa.symm.trans T.g_law
  cases e
  have b := FunD.bindsA (ps := ["_law_script"]) F_law fun _ _ _ _ _ _ us hl => match us, hl with | [_], _ => rfl
  exact ⟨fd_law, fun s v => b s [v] rfl, fun base _ _ => ok_law T⟩
end Mr
open PySem PySem.W PySem.Calls PyProof.Rows
theorem PySem.Challenge.cw_pressalike_k22_widths_filled_holds : PySem.Challenge.rw_pressalike_k22_widths_filled.Holds := by
  w_on; o_law
  refine HandSHeadRun.head_any (r := OpenLaw.row PySem.Challenge.rw_pressalike_k22_widths_filled) (q := view (OpenLaw.row PySem.Challenge.rw_pressalike_k22_widths_filled).prog [12]) (H := Mr.hk) (ob := Mr.ob) (M := 2000) (loose := ["fill_widths", "pen_after", "_law_bag", "_law_draw", "_law_number", "_law_widths", "_law_pair_right", "_law_pen_right", "_law_right"]) (d := HandSHeadRun.topDef (OpenLaw.row PySem.Challenge.rw_pressalike_k22_widths_filled).prog 12) (kwd := []) Mr.ob_eq
    (by kernel_rfl) (fun s => by kernel_rfl) Mr.run (by kernel_rfl) (by kernel_rfl) (by kernel_rfl) (by rfl) (by first | assumption | decide +kernel) (by decide +kernel) ⟨rfl, rfl, rfl, rfl, rfl, by decide +kernel⟩ ?hw ?hc
  case hw => w_witness2
  case hc =>
    refine L2.walk_ofE (l := PySem.Challenge.rw_pressalike_k22_widths_filled) (n := 63) (k := 4) (x := "_law_script") (CX := L2.CX0) rfl (by decide) (by kernel_rfl) ⟨rfl, by decide, by decide⟩ ?F (fun _ _ _ _ z => z)
    intro w mg fa h Y G hmg0
    obtain ⟨K, KX, c⟩ := Y
    have hmg : mg ("law" : PySem.Str) = some (.ref fa) := by
      have e : (HandSHeadRun.topDef (OpenLaw.row PySem.Challenge.rw_pressalike_k22_widths_filled).prog 12).name = ("law" : PySem.Str) := by kernel_rfl
      rw [← e]
      exact hmg0
    obtain ⟨fd, hb, hF⟩ := Mr.facts (P := (PySem.Challenge.rw_pressalike_k22_widths_filled).prog) (w := w) KX G hmg c
    exact ⟨K, fd, Mr.sp_law K, KX, hb, fun H a ns hl _ hS => ⟨H, [], .ref a, ns, rfl, Mr.Sub.of H, ⟨a, _, rfl, hS, Mr.Al.ofSc⟩, true, Mr.law_plain ns hl, fun _ _ _ _ => rfl⟩, hF⟩
