import PyProof.Rows.All
import Wide.All
import OpenK.AllK
import Wide.FinOn
import HandS.Iter
import HandS.Walk
import KE.GoesMore
import HandS.ForMost
import HandS.Exc
import HandS.WordsExc
import HandS.TryOnly
import HandS.ExcOwn
import HandS.ExcInit
import HandS.IsInst
import HandS.Lambda
import HandS.TupAny
import HandS.TupLe
import HandS.TupMul
import HandS.Deep
import HandS.Wide
import HandS.Conv
import HandS.Zip
import HandS.Style
import HandS.ExcIs
import HandS.ExcField
import KE.KExcIs
import HandS.ClsMeth
import HandS.EndTab
import HandS.SortInts
import PySem.Challenge.RW_checksigns_k16_whole_one_and_swap_told
set_option Elab.async false
set_option linter.all false
set_option maxRecDepth 100000
/-! DVE: enumerate of a list or of a tuple. -/
namespace DV
open PySem PySem.Spec PyProof.Rows L2
open AutoSeq1 (wpAny_loadPart')
theorem meets_enumT (l : Addr) (items : Array Value) (n : Nat) (dct : Option Addr) (sl : Array (Option Value)) :
    Meets (Builtin.«enumerate.__new__» ⟨[.type "enumerate", .ref l], []⟩) (fun _ R s => s.heap.get? l = some { cls := .type "tuple", dict := dct, data := .seq items n, slots := sl } ∧
      R (.ok (.ret (.ref (s.heap.push { cls := .type "tuple_iterator", data := .fields #[.ref l, .int 0 0] }).objs.size)))
        { s with heap := (s.heap.push { cls := .type "tuple_iterator", data := .fields #[.ref l, .int 0 0] }).push { cls := .type "enumerate", data := .fields #[.none, .bool false, .ref s.heap.objs.size, rawInt 0, .none, .none] } }) :=
  .of_wp fun prog w A R s h => by
    obtain ⟨hp, g, d, tk, os⟩ := s; obtain ⟨hl, h⟩ := h
    have hsub := sub_enumerate
    have hL : Heap.IsTuple (Shared.heap ⟨hp, g, d, tk, os⟩) l items := ⟨_, hl, rfl, n, rfl⟩
    wp_walk using wpAny_loadPart' hl
    refine wpAny_stack_any fun st => wpAny_pure ?_
    split
    · rename_i c _ _ _ _ _
      cases (c == Value.type "enumerate")
      · wp_walk using wpAny_loadPart' hl, wpAny_pyIter_tuple hL
        exact ⟨_, rfl, h⟩
      · wp_walk using wpAny_loadPart' hl, wpAny_pyIter_tuple hL
        exact ⟨_, rfl, h⟩
    · wp_walk using wpAny_loadPart' hl, wpAny_pyIter_tuple hL
      exact ⟨_, rfl, h⟩
theorem call_enumT {prog : Program} {w : World} {A : Around} {E : Value → Shared → Prop} {s : Shared} {l : Addr} {items : Array Value} {Q : Value → Shared → Prop} (hL : s.heap.IsTuple l items)
    (h : ∀ h', IsEnum h' (s.heap.objs.size + 1) s.heap.objs.size 0 .none → h'.IsTupleIter s.heap.objs.size l 0 → h'.objs.size = s.heap.objs.size + 2 →
      (∀ b o, s.heap.get? b = some o → h'.get? b = some o) → Q (.ref (s.heap.objs.size + 1)) { s with heap := h' }) :
    wpAny (model prog w) A (call (.type "enumerate") [.ref l]) Q E s := by
  obtain ⟨⟨c, dct, dt, sl⟩, hl, hc, n, hd⟩ := hL
  replace hc : c = .type "tuple" := hc
  replace hd : dt = .seq items n := hd
  subst hc hd
  refine callType_new F.called_enumerate (by decide) (F.typeCall_enumerate_1 _) (F.newCall_enumerate_1 _) (fun obj => F.args_object_init_2 obj _) F.entry_enumerate_new
    (meets_enumT l items n dct sl) ⟨hl, ?_⟩
  have hz : (s.heap.push { cls := .type "tuple_iterator", data := .fields #[.ref l, .int 0 0] }).objs.size = s.heap.objs.size + 1 := Heap.size_push ..
  show _ ∧ _
  rw [hz]
  have he : IsEnum ((s.heap.push { cls := .type "tuple_iterator", data := .fields #[.ref l, .int 0 0] }).push
      { cls := .type "enumerate", data := .fields #[.none, .bool false, .ref s.heap.objs.size, rawInt 0, .none, .none] }) (s.heap.objs.size + 1) s.heap.objs.size 0 .none := by
    have := Heap.get?_push_size (s.heap.push { cls := .type "tuple_iterator", data := .fields #[.ref l, .int 0 0] })
      (o := { cls := .type "enumerate", data := .fields #[.none, .bool false, .ref s.heap.objs.size, rawInt 0, .none, .none] }) rfl
    rw [hz] at this; exact this
  refine ⟨⟨_, he, rfl⟩, h _ he ⟨_, Heap.get?_push_of_some _ (Heap.get?_push_size _ rfl), rfl, rfl⟩ (by rw [Heap.size_push, hz]) fun b o x => Heap.get?_push_of_some _ (Heap.get?_push_of_some _ x)⟩
/-- the tuple at a, each item in a new pair -/
def IteT (K : PySem.W.Frag) (a : Addr) : It :=
  ⟨fun i H => ∃ (xs : List V) (x : V), SqT K H a xs ∧ xs[i]? = some x, fun i H v H' => ∃ T x, v = .ref T ∧ H T = none ∧ H' = upd H T (.tup [.int (i : Nat), x]) ∧ ∀ xs, SqT K H a xs → xs[i]? = some x, fun i H => ∃ xs : List V, SqT K H a xs ∧ xs.length = i⟩
theorem turn_enumT {P : Program} {w : World} {K : PySem.W.Frag} {elts : List Expr} {kk : Nat} {tpos : Pos} (a e it : Addr) :
    Turn P w K (.Tuple elts kk tpos) (IteT K a) [e, it] e (fun i h => (∃ old, IsEnum h e it ((i : Nat) : Int) old) ∧ h.IsTupleIter it a i ∧ e ≠ it ∧ a ≠ it ∧ e ≠ a) where
  mem := by simp
  obj := fun i h st b hb => by
    obtain ⟨⟨old, he⟩, ⟨o, ho, hc, hd⟩, _⟩ := st
    have e' : b = e ∨ b = it := by simpa using hb
    rcases e' with z | z
    · rw [z]; exact ⟨_, he, fun v q => nomatch q⟩
    · rw [z]; exact ⟨o, ho, fun v q => by rw [hd] at q; cases q⟩
  keep := fun i h h' st k => let ⟨⟨old, he⟩, hi, hne⟩ := st; ⟨⟨old, k e (by simp) _ he⟩, hi.at fun o q => k it (by simp) o q, hne⟩
  item := by
    intro X hP hw hK hc i pins s σ H E I hf st hg
    subst hP hw hK
    obtain ⟨⟨old, he⟩, hit, hne, hai, hea⟩ := st
    obtain ⟨xs, x, hq, hx⟩ := hg
    obtain ⟨its, rv, p, hz⟩ := I.tuple hq
    obtain ⟨u, hu, ru⟩ := rv.get hx
    have hel : e < s.heap.objs.size := Heap.lt_size he
    have hil : it < s.heap.objs.size := by obtain ⟨_, q, _⟩ := hit; exact Heap.lt_size q
    have hlt : i < its.toArray.size := by
      have := (List.getElem?_eq_some_iff.mp hu).1
      simpa using this
    refine wpAny_pyNext_enum_itemD (Draws.tuple (A := X.A.in1) (I.ok.hd hc) it a hai its.toArray) he ⟨hit, p⟩ hlt hne (by simp [hne, hea]) fun u' h' tk hu' ho hst' hT hsz hk => ?_
    have eu : u' = u := by
      have h1 : its[i]? = some u' := by simpa using hu'
      rw [hu] at h1; cases h1; rfl
    subst eu
    refine ⟨_, rfl, wpAny_letOwnedTupleGo_enum (s := { s with heap := h', toks := tk + 1 }) ho fun h'' he' sb => ?_⟩
    have hT2 : h''.get? s.heap.objs.size = some { cls := .type "tuple", data := .seq #[.int i tk, u'] } := (sb.2 _ (Nat.ne_of_gt hel)).trans hT
    have new : ObjOk X.prog X.w (upd H s.heap.objs.size (.tup [.int (i : Nat), x])) h'' s.heap.objs.size (.tup [.int (i : Nat), x]) :=
      ⟨by show 2 ≤ sizeLine; decide, [.int i tk, u'], .cons ⟨_, rfl⟩ (.cons ru .nil), ⟨_, hT2, rfl, _, rfl⟩⟩
    have I1 : Inv X pins σ (upd H s.heap.objs.size (.tup [.int (i : Nat), x])) { s with heap := h'', toks := tk + 1 } :=
      I.turnedNew (ch := [e, it]) (fun b ob hb q => (sb.2 b (fun z => hb (by simp [z]))).trans (hk b ob (fun z => hb (by simp [z])) (fun z => hb (by simp [z])) q)) hf (Nat.le_refl _) new
    refine ⟨.ref s.heap.objs.size, _, I1, rfl, ⟨_, x, rfl, I.hok.fresh (Nat.le_refl _), rfl, fun ys hy => by rw [I.tuple_inj hy hq]; exact hx⟩, ⟨⟨u', ?_⟩, hst'.1.at fun o q => (sb.2 it (Ne.symm hne)).trans q, hne, hai, hea⟩, fun b hb => ?_⟩
    · have e1 : ((i + 1 : Nat) : Int) = (i : Int) + 1 := by omega
      rw [e1]; exact he'
    · have hb' : b < s.heap.objs.size := by
        have e' : b = e ∨ b = it := by simpa using hb
        rcases e' with z | z
        · rw [z]; exact hel
        · rw [z]; exact hil
      rw [upd_ne (Nat.ne_of_lt hb')]
      exact (hf b hb).1
  done := by
    intro X hP hw hK hc i pins s σ H E I hf st hg
    subst hP hw hK
    obtain ⟨⟨old, he⟩, hit, hne, hai, hea⟩ := st
    obtain ⟨xs, hq, hx⟩ := hg
    obtain ⟨its, rv, p, hz⟩ := I.tuple hq
    obtain ⟨f0, f1, f2, f3, f4, f5⟩ := hf it (by simp)
    have hl := rv.length
    have hn : i = its.toArray.size := by simp; omega
    subst hn
    exact wpAny_pyNext_enum_endD (Draws.tuple (A := X.A.in1) (I.ok.hd hc) it a hai its.toArray) he ⟨hit, p⟩ fun h' eb => ⟨rfl, I.turned (t' := s.toks) (fun b o hb q => eb b o hb q) f0 f1 f3 f4 f5⟩
  self := fun A i s Q E st h => let ⟨⟨_, he⟩, _⟩ := st; wpAny_pyIter_enum he h
def iEnumA (K : PySem.W.Frag) (ta : TA) : TI := fun σ H R => ta σ H fun vs H1 => ∃ a xs, vs = [.ref a] ∧ ((SqL K H1 a xs ∧ R (Ite K a) H1) ∨ (SqT K H1 a xs ∧ R (IteT K a) H1))
theorem pi_enumA {X : Cx} {e : Expr} {ta : TA} {p pos tpos : Pos} {elts : List Expr} {kk : Nat} (hg : Gl X "enumerate") (hm : X.mg "enumerate" = none) (ha : PA X [e] ta) (hs : starEach [e] X.env = [(false, eval e X.env)] := by rfl) :
    PI X (.Tuple elts kk tpos) (.Call (.Name "enumerate" p) [e] [] pos) (iEnumA X.K ta) := by
  refine ⟨fun pins s σ H R I h => ?_⟩
  refine Call_ (ld_blt I hg hm boot_enumerate (PyProof.Rows.callWith_type1 (thn (ha.run pos pins s σ H _ I h) fun us s1 ⟨vs, H1, I1, r1, q1⟩ => ?_) hs rfl))
  obtain ⟨a, xs, ex, q1⟩ := q1
  subst ex
  cases r1 with
  | cons r rr =>
    cases rr
    cases r
    have fresh2 : ∀ b, b ∈ [s1.heap.objs.size + 1, s1.heap.objs.size] → FpOk X pins H1 b := fun b hb => by
      have e' : b = s1.heap.objs.size + 1 ∨ b = s1.heap.objs.size := by simpa using hb
      have hle : s1.heap.objs.size ≤ b := by
        rcases e' with z | z
        · rw [z]; exact Nat.le_add_right _ _
        · rw [z]; exact Nat.le_refl _
      exact I1.fpOk hle (I1.hok.fresh hle)
    rcases q1 with ⟨hq, q⟩ | ⟨hq, q⟩
    · obtain ⟨its, rv, p', hz⟩ := I1.list hq
      refine call_enumerate_list p'.isList fun h' he hit hsz hk => wpAny_pyIter_enum he ?_
      have I2 : Inv X pins σ H1 { s1 with heap := h' } := I1.kept (t' := s1.toks) hk
      exact ⟨s1.heap.objs.size + 1, [s1.heap.objs.size + 1, s1.heap.objs.size], _, _, H1, rfl, I2, turn_enum a (s1.heap.objs.size + 1) s1.heap.objs.size, ⟨⟨.none, he⟩, hit, Nat.succ_ne_self _⟩, fresh2, q⟩
    · obtain ⟨its, rv, p', hz⟩ := I1.tuple hq
      obtain ⟨o1, ho1, _⟩ := id p'
      have hla : a < s1.heap.objs.size := Heap.lt_size ho1
      refine call_enumT (show s1.heap.IsTuple a its.toArray from p') fun h' he hit hsz hk => wpAny_pyIter_enum he ?_
      have I2 : Inv X pins σ H1 { s1 with heap := h' } := I1.kept (t' := s1.toks) hk
      exact ⟨s1.heap.objs.size + 1, [s1.heap.objs.size + 1, s1.heap.objs.size], _, _, H1, rfl, I2, turn_enumT a (s1.heap.objs.size + 1) s1.heap.objs.size, ⟨⟨.none, he⟩, hit, Nat.succ_ne_self _, Nat.ne_of_lt hla, Nat.ne_of_gt (Nat.lt_succ_of_lt hla)⟩, fresh2, q⟩
variable {K : PySem.W.Frag} {a : Addr} {xs : List V}
theorem walk_enumT : Walk (IteT K a) xs.length (fun H => SqT K H a xs) (YPair (fun i => some (.int (i : Nat))) (fun i => xs[i]?)) := by
  refine ⟨fun i _ hi q => ⟨xs, xs[i], q, by simp [hi]⟩, fun _ q => ⟨xs, q, rfl⟩, fun i H v H' _ q y => ?_⟩
  obtain ⟨T, x, h1, h2, h3, h4⟩ := y
  exact ⟨T, .int (i : Nat), x, h1, h2, h3, rfl, h4 xs q⟩
end DV

set_option Elab.async false
set_option linter.all false
set_option maxRecDepth 100000
/-! DV1: plain data D, what of the heap stands for it (Rep), the relation of slots and heap to plain slots (Rel). -/
namespace DV
open PySem PySem.Spec PyProof.Rows L2

/-- plain data -/
inductive D where
  | non | bl (b : Bool) | int (i : Int) | str (s : Str)
  | tup (xs : List D) | lst (xs : List D) | dct (kvs : List (D × D))
  | obj (c : Str) (fs : List (Str × D))
  | frz (xs : List D)
  | hand
/-- a slot: nothing known, a value that no statement changes any more, a list (a dict) of the def's own that statements may change -/
inductive Sl where
  | no | val (d : D) | own (a : Addr) (xs : List D) | ownd (a : Addr) (kvs : List (D × D))
  | pin (a : Addr) (dd : Option Addr) (fs : List (Str × D))
abbrev Env := List Sl
/-- an error: its class, its fields -/
abbrev Er := Str × List (Str × D)
/-- what is fixed of the program: the written part, the classes' places -/
structure Pg where
  K : PySem.W.Frag
  CT : Str → Option Addr
  T : List (Addr × Str) := []
  ET : Str → Option Addr := fun _ => none
/-- the state's part that only the proof sees: addresses hidden (own lists, the hand), the hand -/
structure Zs where
  O : List Addr
  h : Option Addr
  B : List Addr := []
/-- no table of code objects -/
def NT (o : HO) : Prop := ∀ ps, o ≠ .tbl ps
/-- what stood there stands there, but for a table, which may have grown -/
def Ex1 (H : Hp) (b : Addr) (o : HO) : Prop := ∃ o', H b = some o' ∧ (NT o → o' = o)
theorem Ex1.of {H : Hp} {b : Addr} {o : HO} (e : H b = some o) : Ex1 H b o := ⟨o, e, fun _ => rfl⟩
theorem Ex1.ne {H : Hp} {b : Addr} {o : HO} (e : Ex1 H b o) : H b ≠ none := by
  obtain ⟨o', q, _⟩ := e
  rw [q]; simp
theorem Ex1.get {H : Hp} {b : Addr} {o : HO} (e : Ex1 H b o) (n : NT o) : H b = some o := by
  obtain ⟨o', q, r⟩ := e
  rw [q, r n]
theorem Ex1.lst {H : Hp} {b : Addr} {xs : List V} (e : Ex1 H b (.lst xs)) : H b = some (.lst xs) := e.get fun _ z => by cases z
theorem Ex1.dK {H : Hp} {b : Addr} {xs : List (Key × V)} (e : Ex1 H b (.dK xs)) : H b = some (.dK xs) := e.get fun _ z => by cases z
theorem Ex1.dT {H : Hp} {b : Addr} {xs : List (List Key × V)} (e : Ex1 H b (.dT xs)) : H b = some (.dT xs) := e.get fun _ z => by cases z
theorem Ex1.trans {H H2 : Hp} {b : Addr} {o : HO} (e : Ex1 H b o) (k : ∀ o', H b = some o' → Ex1 H2 b o') : Ex1 H2 b o := by
  obtain ⟨o1, q1, r1⟩ := e
  obtain ⟨o2, q2, r2⟩ := k o1 q1
  refine ⟨o2, q2, fun n => ?_⟩
  have e1 := r1 n
  rw [e1] at r2
  exact r2 n
def vis (O : List Addr) (H : Hp) : Hp := fun b => if b ∈ O then none else match H b with
  | some (.tbl _) => none
  | x => x
theorem vis_in {O : List Addr} {H : Hp} {b : Addr} (h : b ∈ O) : vis O H b = none := if_pos h
theorem vis_out {O : List Addr} {H : Hp} {b : Addr} {o : HO} (h : b ∉ O) (e : H b = some o) (n : NT o := by intro _ z; cases z) : vis O H b = some o := by
  unfold vis
  rw [if_neg h, e]
  split
  · rename_i q
    exact absurd (Option.some.inj q) (n _)
  · rfl
theorem vis_nt {O : List Addr} {H : Hp} {b : Addr} {o : HO} (e : vis O H b = some o) : NT o := fun ps z => by
  unfold vis at e
  split at e
  · cases e
  · split at e
    · cases e
    · rename_i q
      rw [z] at e
      exact q ps e
theorem vis_some {O : List Addr} {H : Hp} {b : Addr} {o : HO} (e : vis O H b = some o) : b ∉ O ∧ H b = some o := by
  unfold vis at e
  split at e
  · cases e
  · rename_i q
    split at e
    · cases e
    · exact ⟨q, e⟩
theorem vis_eq {O O' : List Addr} {H H' : Hp} {b : Addr} (h : b ∉ O) (h' : b ∉ O') (e : H b = H' b) : vis O H b = vis O' H' b := by
  unfold vis
  rw [if_neg h, if_neg h', e]
theorem tabs_keep {T : List (Addr × Str)} {H H' : Hp} (t : LamX.Tabs T H) (k : ∀ b o, H b = some o → ((∃ ps, o = .tbl ps) ∨ ∃ c q, o = LamX.CodeO c q) → H' b = some o) : LamX.Tabs T H' := fun p hp => by
  obtain ⟨ps, h1, h2, h3⟩ := t p hp
  refine ⟨ps, k _ _ h1 (.inl ⟨ps, rfl⟩), h2, fun pos cv hc => ?_⟩
  obtain ⟨c, e1, e2⟩ := h3 pos cv hc
  exact ⟨c, e1, k _ _ e2 (.inr ⟨c, _, rfl⟩)⟩
/-- a list or a dict is neither table nor code -/
def Pln (o : HO) : Prop := (∀ ps, o ≠ .tbl ps) ∧ ∀ c q, o ≠ LamX.CodeO c q
theorem plain_lst {xs : List V} : Pln (.lst xs) := ⟨(fun _ z => by cases z), fun _ _ z => by unfold LamX.CodeO at z; cases z⟩
theorem plain_dK {xs : List (Key × V)} : Pln (.dK xs) := ⟨(fun _ z => by cases z), fun _ _ z => by unfold LamX.CodeO at z; cases z⟩
theorem plain_dT {xs : List (List Key × V)} : Pln (.dT xs) := ⟨(fun _ z => by cases z), fun _ _ z => by unfold LamX.CodeO at z; cases z⟩
theorem tabs_upd {T : List (Addr × Str)} {H : Hp} {a : Addr} {o u : HO} (t : LamX.Tabs T H) (e : H a = some u) (p : Pln u) : LamX.Tabs T (upd H a o) := tabs_keep t fun b w eb hw => by
  rw [upd_ne]
  · exact eb
  · intro z
    subst z
    rw [e] at eb; cases eb
    rcases hw with ⟨ps, z⟩ | ⟨c, q, z⟩
    · exact p.1 _ z
    · exact p.2 _ _ z
def dKey : Key → D
  | .inl i => .int i
  | .inr s => .str s
def tKey (ks : List Key) : D := .tup (ks.map dKey)

mutual
/-- v stands for d in the visible heap H, the hand at hh -/
inductive Rep (G : Pg) (H : Hp) (hh : Option Addr) : V → D → Prop
  | non : Rep G H hh .non .non
  | bl (b : Bool) : Rep G H hh (.bl b) (.bl b)
  | int (i : Int) : Rep G H hh (.int i) (.int i)
  | str (s : Str) : Rep G H hh (.str s) (.str s)
  | tup {a : Addr} {vs : List V} {ds : List D} (e : SqT G.K H a vs) (r : RepL G H hh vs ds) : Rep G H hh (.ref a) (.tup ds)
  | lst {a : Addr} {vs : List V} {ds : List D} (e : H a = some (.lst vs)) (r : RepL G H hh vs ds) : Rep G H hh (.ref a) (.lst ds)
  | dK {a : Addr} {kvs : List (Key × V)} {vs : List V} {ds : List D} {kds : List (D × D)} (e : H a = some (.dK kvs)) (e1 : vs = kvs.map (·.2)) (r : RepL G H hh vs ds) (e2 : kds = (kvs.map fun p => dKey p.1).zip ds) : Rep G H hh (.ref a) (.dct kds)
  | dT {a : Addr} {kvs : List (List Key × V)} {vs : List V} {ds : List D} {kds : List (D × D)} (e : H a = some (.dT kvs)) (e1 : vs = kvs.map (·.2)) (r : RepL G H hh vs ds) (e2 : kds = (kvs.map fun p => tKey p.1).zip ds) : Rep G H hh (.ref a) (.dct kds)
  | obj {a C dx : Addr} {c : Str} {vfs : List (Str × V)} {vs : List V} {ds : List D} {fs : List (Str × D)} (ec : G.CT c = some C) (e : H a = some (.ins C dx vfs)) (e1 : vs = vfs.map (·.2)) (r : RepL G H hh vs ds) (e2 : fs = (vfs.map (·.1)).zip ds) : Rep G H hh (.ref a) (.obj c fs)
  | frz {a : Addr} {vs : List V} {ds : List D} (e : SqL G.K H a vs) (r : RepL G H hh vs ds) : Rep G H hh (.ref a) (.frz ds)
  | hand {a : Addr} (e : hh = some a) : Rep G H hh (.ref a) .hand
inductive RepL (G : Pg) (H : Hp) (hh : Option Addr) : List V → List D → Prop
  | nil : RepL G H hh [] []
  | cons {v : V} {d : D} {vs : List V} {ds : List D} (r : Rep G H hh v d) (rs : RepL G H hh vs ds) : RepL G H hh (v :: vs) (d :: ds)
end

section
variable {G : Pg} {H H' : Hp} {hh hh' : Option Addr}
theorem sqT_same {K : PySem.W.Frag} {a : Addr} {xs : List V} (e : Same H H') (h : SqT K H a xs) : SqT K H' a xs := by
  rcases h with (h | ⟨o, h⟩) | h
  · exact .inl (.inl (e _ _ h))
  · exact .inl (.inr ⟨o, e _ _ h⟩)
  · exact .inr h
mutual
theorem Rep.mono (e : Same H H') (eh : ∀ a, hh = some a → hh' = some a) : ∀ {v : V} {d : D}, Rep G H hh v d → Rep G H' hh' v d
  | _, _, .non => .non
  | _, _, .bl b => .bl b
  | _, _, .int i => .int i
  | _, _, .str s => .str s
  | _, _, .tup q r => .tup (sqT_same e q) (RepL.mono e eh r)
  | _, _, .lst q r => .lst (e _ _ q) (RepL.mono e eh r)
  | _, _, .dK q e1 r e2 => .dK (e _ _ q) e1 (RepL.mono e eh r) e2
  | _, _, .dT q e1 r e2 => .dT (e _ _ q) e1 (RepL.mono e eh r) e2
  | _, _, .obj ec q e1 r e2 => .obj ec (e _ _ q) e1 (RepL.mono e eh r) e2
  | _, _, .frz q r => .frz (e.seq q) (RepL.mono e eh r)
  | _, _, .hand q => .hand (eh _ q)
theorem RepL.mono (e : Same H H') (eh : ∀ a, hh = some a → hh' = some a) : ∀ {vs : List V} {ds : List D}, RepL G H hh vs ds → RepL G H' hh' vs ds
  | _, _, .nil => .nil
  | _, _, .cons r rs => .cons (Rep.mono e eh r) (RepL.mono e eh rs)
end
theorem RepL.length : ∀ {vs : List V} {ds : List D}, RepL G H hh vs ds → vs.length = ds.length
  | _, _, .nil => rfl
  | _, _, .cons _ rs => congrArg (· + 1) rs.length
theorem RepL.get : ∀ {vs : List V} {ds : List D} {i : Nat} {d : D}, RepL G H hh vs ds → ds[i]? = some d → ∃ v, vs[i]? = some v ∧ Rep G H hh v d
  | _, _, _, _, .nil, e => by simp at e
  | _, _, 0, _, .cons r _, e => by
    simp at e; subst e; exact ⟨_, rfl, r⟩
  | _, _, i + 1, _, .cons _ rs, e => by
    obtain ⟨v, h1, h2⟩ := RepL.get (i := i) rs (by simpa using e)
    exact ⟨v, by simpa using h1, h2⟩
theorem RepL.getV {vs : List V} {ds : List D} {i : Nat} {v : V} (h : RepL G H hh vs ds) (e : vs[i]? = some v) : ∃ d, ds[i]? = some d ∧ Rep G H hh v d := by
  have hl := h.length
  have hi : i < ds.length := by
    have := (List.getElem?_eq_some_iff.mp e).1
    omega
  obtain ⟨v', e', r⟩ := h.get (List.getElem?_eq_getElem hi)
  rw [e] at e'; cases e'
  exact ⟨_, List.getElem?_eq_getElem hi, r⟩
theorem RepL.append : ∀ {vs ws : List V} {ds es : List D}, RepL G H hh vs ds → RepL G H hh ws es → RepL G H hh (vs ++ ws) (ds ++ es)
  | _, _, _, _, .nil, s => s
  | _, _, _, _, .cons r rs, s => .cons r (RepL.append rs s)
theorem RepL.take : ∀ {vs : List V} {ds : List D} (n : Nat), RepL G H hh vs ds → RepL G H hh (vs.take n) (ds.take n)
  | _, _, 0, _ => .nil
  | _, _, _ + 1, .nil => .nil
  | _, _, n + 1, .cons r rs => .cons r (RepL.take n rs)
theorem RepL.drop : ∀ {vs : List V} {ds : List D} (n : Nat), RepL G H hh vs ds → RepL G H hh (vs.drop n) (ds.drop n)
  | _, _, 0, r => r
  | _, _, _ + 1, .nil => .nil
  | _, _, n + 1, .cons _ rs => RepL.drop n rs
theorem RepL.set {v : V} {d : D} (r : Rep G H hh v d) : ∀ {vs : List V} {ds : List D} (n : Nat), RepL G H hh vs ds → RepL G H hh (vs.set n v) (ds.set n d)
  | _, _, _, .nil => .nil
  | _, _, 0, .cons _ rs => .cons r rs
  | _, _, n + 1, .cons q rs => .cons q (RepL.set r n rs)
theorem RepL.eraseIdx : ∀ {vs : List V} {ds : List D} (n : Nat), RepL G H hh vs ds → RepL G H hh (vs.eraseIdx n) (ds.eraseIdx n)
  | _, _, _, .nil => .nil
  | _, _, 0, .cons _ rs => rs
  | _, _, n + 1, .cons q rs => .cons q (RepL.eraseIdx n rs)
theorem RepL.reverse : ∀ {vs : List V} {ds : List D}, RepL G H hh vs ds → RepL G H hh vs.reverse ds.reverse
  | _, _, .nil => .nil
  | _, _, .cons r rs => by
    rw [List.reverse_cons, List.reverse_cons]
    exact (RepL.reverse rs).append (.cons r .nil)
theorem RepL.rep {vs : List V} {ds : List D} (h : RepL G H hh vs ds) : ∀ k : Nat, RepL G H hh (List.replicate k vs).flatten (List.replicate k ds).flatten
  | 0 => .nil
  | k + 1 => by
    rw [List.replicate_succ, List.replicate_succ, List.flatten_cons, List.flatten_cons]
    exact h.append (RepL.rep h k)
/-- lists of plain numbers -/
theorem RepL.ints : ∀ {vs : List V} {ns : List Int}, RepL G H hh vs (ns.map D.int) → vs = ns.map V.int
  | _, [], h => by cases h; rfl
  | _, n :: ns, h => by
    cases h with
    | cons r rs =>
      cases r
      rw [RepL.ints rs]
      rfl
theorem RepL.of_ints : ∀ (ns : List Int), RepL G H hh (ns.map V.int) (ns.map D.int)
  | [] => .nil
  | n :: ns => .cons (.int n) (RepL.of_ints ns)
theorem RepL.bls : ∀ {vs : List V} {bs : List Bool}, RepL G H hh vs (bs.map D.bl) → vs = bs.map V.bl
  | _, [], h => by cases h; rfl
  | _, n :: ns, h => by
    cases h with
    | cons r rs =>
      cases r
      rw [RepL.bls rs]
      rfl
end

/-! ### the hand -/
/-- the hand's list: cells, place, great number, state, count -/
def HandOk (O : List Addr) (H : Hp) (a : Addr) : Prop := a ∈ O ∧ ∃ (c : Addr) (cells : List Int) (p : Nat) (big st cnt : Int), H a = some (.lst [.ref c, .int p, .int big, .int st, .int cnt]) ∧
  c ∉ O ∧ H c = some (.lst (cells.map V.int)) ∧ (∀ x ∈ cells, 0 ≤ x) ∧ 0 ≤ big ∧ 0 ≤ st ∧ 0 ≤ cnt ∧ st < 2 ^ 63

/-- the def's entry: the hidden and the heap there -/
structure Ent where
  G : Pg
  Z : Zs
  H : Hp
/-- what a caught error's fields are -/
def ErD (G : Pg) (H : Hp) (hh : Option Addr) (dd : Option Addr) (fs : List (Str × D)) : Prop := match dd with
  | none => fs = []
  | some p => ∃ (vfs : List (Str × V)) (ds : List D), H p = some (.xd vfs) ∧ RepL G H hh (vfs.map (·.2)) ds ∧ fs = (vfs.map (·.1)).zip ds
theorem ErD.mono {G : Pg} {H H' : Hp} {hh hh' : Option Addr} {dd : Option Addr} {fs : List (Str × D)} (e : Same H H') (eh : ∀ a, hh = some a → hh' = some a) (h : ErD G H hh dd fs) : ErD G H' hh' dd fs := by
  cases dd with
  | none => exact h
  | some p =>
    obtain ⟨vfs, ds, h1, h2, h3⟩ := h
    exact ⟨vfs, ds, e _ _ h1, h2.mono e eh, h3⟩
def SlotOk (S : Ent) (Z : Zs) (σ : L2.St) (H : Hp) (i : Nat) : Sl → Prop
  | .no => True
  | .pin a dd fs => σ[i]? = some (some (.ref a)) ∧ ErD S.G (vis Z.O H) Z.h dd fs
  | .val d => ∃ v, σ[i]? = some (some v) ∧ Rep S.G (vis Z.O H) Z.h v d
  | .own a xs => ∃ vs, σ[i]? = some (some (.ref a)) ∧ a ∈ Z.O ∧ Z.h ≠ some a ∧ S.H a = none ∧ H a = some (.lst vs) ∧ RepL S.G (vis Z.O H) Z.h vs xs
  | .ownd a kvs => ∃ vs ds, σ[i]? = some (some (.ref a)) ∧ a ∈ Z.O ∧ Z.h ≠ some a ∧ S.H a = none ∧ RepL S.G (vis Z.O H) Z.h vs ds ∧
      ((∃ hk : List (Key × V), H a = some (.dK hk) ∧ vs = hk.map (·.2) ∧ kvs = (hk.map fun p => dKey p.1).zip ds) ∨
       (∃ hk : List (List Key × V), H a = some (.dT hk) ∧ vs = hk.map (·.2) ∧ kvs = (hk.map fun p => tKey p.1).zip ds))
def Sl.owns : Sl → Bool
  | .own _ _ => true
  | .ownd _ _ => true
  | _ => false
/-- a is no slot's own -/
def NotOwned (env : Env) (σ : L2.St) (a : Addr) : Prop := ∀ (j : Nat) (x : Sl), env[j]? = some x → x.owns = true → σ[j]? ≠ some (some (V.ref a))
/-- a hidden address that no slot owns -/
structure Spare (S : Ent) (Z : Zs) (env : Env) (σ : L2.St) (a : Addr) : Prop where
  ino : a ∈ Z.O
  nh : Z.h ≠ some a
  ne : S.H a = none
  no : NotOwned env σ a
structure Rel (S : Ent) (Z : Zs) (env : Env) (σ : L2.St) (H : Hp) : Prop where
  oin : ∀ a ∈ Z.O, H a ≠ none
  sub : ∀ a ∈ S.Z.O, a ∈ Z.O
  hnd : ∀ a, Z.h = some a → HandOk Z.O H a
  hsub : Z.h = S.Z.h
  frame : ∀ b o, S.H b = some o → S.Z.h ≠ some b → Ex1 H b o
  ehnd : ∀ a ∈ S.Z.O, S.H a ≠ none
  nhnd : ∀ a, Z.h = some a → S.Z.h = some a ∨ S.H a = none
  len : env.length = σ.length
  slots : ∀ i x, env[i]? = some x → SlotOk S Z σ H i x
  inj : ∀ (i j : Nat) (x y : Sl) (a : Addr), env[i]? = some x → env[j]? = some y → x.owns = true → y.owns = true → σ[i]? = some (some (V.ref a)) → σ[j]? = some (some (V.ref a)) → i = j
  res : ∀ a ∈ Z.B, Spare S Z env σ a
  tabs : LamX.Tabs S.G.T H
  osb : ∀ a ∈ Z.O, a ∈ S.Z.O ∨ S.H a = none

/-- what an expression leaves of the hidden and the heap: all but the hand stays -/
structure Tr (Z : Zs) (H : Hp) (Z' : Zs) (H' : Hp) : Prop where
  keep : ∀ b o, H b = some o → Z.h ≠ some b → Ex1 H' b o
  osub : ∀ a ∈ Z'.O, a ∈ Z.O ∨ H a = none
  hh : ∀ a, Z.h = some a → Z'.h = some a
  hz : ∀ x, Z'.h = some x → Z.h = some x ∨ H x = none
  bb : Z'.B = Z.B
/-- what is visible stays so -/
structure Vle (Z : Zs) (H : Hp) (Z' : Zs) (H' : Hp) : Prop where
  same : Same (vis Z.O H) (vis Z'.O H')
  hh : ∀ a, Z.h = some a → Z'.h = some a
section
variable {S : Ent} {Z Z' Z2 : Zs} {env : Env} {σ : L2.St} {H H' H2 : Hp}
theorem Tr.refl : Tr Z H Z H := ⟨fun _ _ e _ => .of e, fun _ h => .inl h, fun _ h => h, fun _ h => .inl h, rfl⟩
theorem Tr.alloc (k : Same H H') : Tr Z H Z H' := ⟨fun b o e _ => .of (k b o e), fun _ h => .inl h, fun _ h => h, fun _ h => .inl h, rfl⟩
theorem Tr.vle (t : Tr Z H Z' H') (hO : ∀ a, Z.h = some a → a ∈ Z.O) : Vle Z H Z' H' := by
  refine ⟨fun b o e => ?_, t.hh⟩
  obtain ⟨h1, h2⟩ := vis_some e
  have h3 : b ∉ Z'.O := fun hb => by
    rcases t.osub b hb with z | z
    · exact h1 z
    · rw [h2] at z; cases z
  have n := vis_nt e
  exact vis_out h3 ((t.keep b o h2 fun z => h1 (hO b z)).get n) n
theorem Vle.refl : Vle Z H Z H := ⟨fun _ _ e => e, fun _ h => h⟩
theorem Vle.trans (a : Vle Z H Z' H') (b : Vle Z' H' Z2 H2) : Vle Z H Z2 H2 := ⟨a.same.trans b.same, fun x h => b.hh x (a.hh x h)⟩
theorem Vle.rep {G : Pg} {v : V} {d : D} (t : Vle Z H Z' H') (r : Rep G (vis Z.O H) Z.h v d) : Rep G (vis Z'.O H') Z'.h v d := r.mono t.same t.hh
theorem Vle.repL {G : Pg} {v : List V} {d : List D} (t : Vle Z H Z' H') (r : RepL G (vis Z.O H) Z.h v d) : RepL G (vis Z'.O H') Z'.h v d := r.mono t.same t.hh
theorem Rel.hin (R : Rel S Z env σ H) : ∀ a, Z.h = some a → a ∈ Z.O := fun a h => (R.hnd a h).1
theorem Rel.vle (R : Rel S Z env σ H) (t : Tr Z H Z' H') : Vle Z H Z' H' := t.vle R.hin
/-- R: of the state in the middle -/
theorem Tr.trans (R : Rel S Z' env σ H') (a : Tr Z H Z' H') (b : Tr Z' H' Z2 H2) : Tr Z H Z2 H2 := by
  have up : ∀ x, H' x = none → H x = none := fun x z => by
    cases q : H x with
    | none => rfl
    | some o =>
      by_cases hn : Z.h = some x
      · have := (R.hnd x (a.hh x hn)).1
        exact absurd z (R.oin x this)
      · exact absurd z (a.keep x o q hn).ne
  refine ⟨fun x o e n => (a.keep x o e n).trans fun o' e' => b.keep x o' e' fun z => ?_, fun x hx => ?_, fun x h => b.hh x (a.hh x h), fun x h => ?_, b.bb.trans a.bb⟩
  · rcases a.hz x z with q | q
    · exact n q
    · rw [e] at q; cases q
  · rcases b.osub x hx with z | z
    · exact a.osub x z
    · exact .inr (up x z)
  · rcases b.hz x h with z | z
    · exact a.hz x z
    · exact .inr (up x z)
theorem HandOk.mono {O O' : List Addr} {a : Addr} (h : HandOk O H a) (ha : a ∈ O') (hO : ∀ c, c ∉ O → H c ≠ none → c ∉ O') (k : ∀ b o, H b = some o → b = a ∨ b ∉ O → H' b = some o) : HandOk O' H' a := by
  obtain ⟨h0, c, cells, p, big, st, cnt, e1, nc, e2, q⟩ := h
  exact ⟨ha, c, cells, p, big, st, cnt, k _ _ e1 (.inl rfl), hO c nc (by rw [e2]; simp), k _ _ e2 (.inr nc), q⟩
theorem SlotOk.mono {i : Nat} {x : Sl} (h : SlotOk S Z σ H i x) (v : Vle Z H Z' H') (hO : ∀ a, x.owns = true → σ[i]? = some (some (.ref a)) → a ∈ Z.O → S.H a = none → Z.h ≠ some a → a ∈ Z'.O ∧ Z'.h ≠ some a ∧ ∀ o, H a = some o → NT o → H' a = some o) : SlotOk S Z' σ H' i x := by
  cases x with
  | no => trivial
  | pin a dd fs => exact ⟨h.1, h.2.mono v.same v.hh⟩
  | val d => obtain ⟨w, e, r⟩ := h; exact ⟨w, e, v.rep r⟩
  | own a xs =>
    obtain ⟨vs, e, h1, h2, h3, h4, h5⟩ := h
    obtain ⟨q1, q2, q3⟩ := hO a rfl e h1 h3 h2
    exact ⟨vs, e, q1, q2, h3, q3 _ h4 (fun _ z => by cases z), v.repL h5⟩
  | ownd a kvs =>
    obtain ⟨vs, ds, e, h1, h2, h3, h4, h5⟩ := h
    obtain ⟨q1, q2, q3⟩ := hO a rfl e h1 h3 h2
    refine ⟨vs, ds, e, q1, q2, h3, v.repL h4, ?_⟩
    rcases h5 with ⟨hk, e1, e2⟩ | ⟨hk, e1, e2⟩
    · exact .inl ⟨hk, q3 _ e1 (fun _ z => by cases z), e2⟩
    · exact .inr ⟨hk, q3 _ e1 (fun _ z => by cases z), e2⟩
/-- new objects; the hand may have moved -/
theorem Rel.step (R : Rel S Z env σ H) (k : ∀ b o, H b = some o → Z.h ≠ some b → Ex1 H' b o) (hd : ∀ a, Z.h = some a → HandOk Z.O H' a) (tt : LamX.Tabs S.G.T H') : Rel S Z env σ H' := by
  have t : Tr Z H Z H' := ⟨k, fun _ h => .inl h, fun _ h => h, fun _ h => .inl h, rfl⟩
  refine ⟨fun a ha z => ?_, R.sub, hd, R.hsub, fun b o e n => ?_, R.ehnd, R.nhnd, R.len, fun i x e => ?_, R.inj, R.res, tt, R.osb⟩
  · by_cases hn : Z.h = some a
    · obtain ⟨_, _, _, _, _, _, _, q, _⟩ := hd a hn
      rw [z] at q; cases q
    · cases q : H a with
      | none => exact R.oin a ha q
      | some o => exact absurd z (k a o q hn).ne
  · refine (R.frame b o e n).trans fun o' e' => k b o' e' fun z => ?_
    rcases R.nhnd b z with q | q
    · exact n q
    · rw [e] at q; cases q
  · exact (R.slots i x e).mono (R.vle t) fun a _ _ h1 _ h2 => ⟨h1, h2, fun o q n => (k a o q h2).get n⟩
theorem Rel.grow (R : Rel S Z env σ H) (k : Same H H') : Rel S Z env σ H' :=
  R.step (fun b o e _ => .of (k b o e)) (fun a h => (R.hnd a h).mono (R.hin a h) (fun _ n _ => n) fun b o e _ => k b o e) (R.tabs.ext k)
theorem Rel.free (R : Rel S Z env σ H) {p : Addr} (h : H p = none) : p ∉ Z.O := fun hp => R.oin p hp h
theorem Rel.fresh0 (R : Rel S Z env σ H) {p : Addr} (h : H p = none) : S.H p = none := by
  cases q : S.H p with
  | none => rfl
  | some o =>
    by_cases hn : S.Z.h = some p
    · exact absurd h (R.oin p (R.hin p (R.hsub.trans hn)))
    · exact absurd h (R.frame p o q hn).ne
theorem same_upd {p : Addr} {o : HO} (h : H p = none) : Same H (upd H p o) := fun b u e => by rw [upd_ne (ne_of_none e h)]; exact e
theorem vis_upd_in {O : List Addr} {p : Addr} {o : HO} (h : p ∈ O) : vis O (upd H p o) = vis O H := by
  funext b
  by_cases hb : b ∈ O
  · rw [vis_in hb, vis_in hb]
  · exact vis_eq hb hb (upd_ne (fun z => hb (by rw [z]; exact h)))
theorem vis_cons {O : List Addr} {p : Addr} (h : H p = none) : vis (p :: O) H = vis O H := by
  funext b
  by_cases hb : b ∈ O
  · rw [vis_in hb, vis_in (List.mem_cons_of_mem _ hb)]
  · by_cases hp : b = p
    · subst hp
      rw [vis_in List.mem_cons_self]
      unfold vis
      rw [if_neg hb, h]
    · exact vis_eq (by simp [hp, hb]) hb rfl
/-- a value is stored -/
theorem NotOwned.set {i : Nat} {v : Option V} {x : Sl} (hx : x.owns = false) {a : Addr} (n : NotOwned env σ a) : NotOwned (env.set i x) (σ.set i v) a := fun j y e o s => by
  by_cases hj : i = j
  · subst hj
    by_cases hi : i < env.length
    · rw [List.getElem?_set_self hi] at e; cases e; rw [hx] at o; cases o
    · rw [List.getElem?_eq_none (by simpa using hi)] at e; cases e
  · rw [List.getElem?_set_ne hj] at e s
    exact n j y e o s
theorem Rel.put (R : Rel S Z env σ H) {i : Nat} {v : V} {d : D} (r : Rep S.G (vis Z.O H) Z.h v d) : Rel S Z (env.set i (.val d)) (σ.set i (some v)) H := by
  refine ⟨R.oin, R.sub, R.hnd, R.hsub, R.frame, R.ehnd, R.nhnd, by simp [R.len], fun j x e => ?_, fun j k x y a e1 e2 o1 o2 s1 s2 => ?_, fun a ha => let q := R.res a ha; ⟨q.ino, q.nh, q.ne, q.no.set rfl⟩, R.tabs, R.osb⟩
  · by_cases hj : i = j
    · subst hj
      by_cases hi : i < env.length
      · rw [List.getElem?_set_self hi] at e; cases e
        exact ⟨v, by rw [List.getElem?_set_self (by rw [← R.len]; exact hi)], r⟩
      · rw [List.getElem?_eq_none (by simpa using hi)] at e; cases e
    · rw [List.getElem?_set_ne hj] at e
      have := R.slots j x e
      have es : (σ.set i (some v))[j]? = σ[j]? := List.getElem?_set_ne hj
      cases x with
      | no => trivial
      | pin a dd fs => exact ⟨es.trans this.1, this.2⟩
      | val d => obtain ⟨w, e, r⟩ := this; exact ⟨w, es.trans e, r⟩
      | own a xs => obtain ⟨vs, e, q⟩ := this; exact ⟨vs, es.trans e, q⟩
      | ownd a xs => obtain ⟨vs, ds, e, q⟩ := this; exact ⟨vs, ds, es.trans e, q⟩
  · have nj : ∀ (j : Nat) (x : Sl), (env.set i (.val d))[j]? = some x → x.owns = true → i ≠ j ∧ env[j]? = some x := fun j x e o => by
      by_cases hj : i = j
      · subst hj
        by_cases hi : i < env.length
        · rw [List.getElem?_set_self hi] at e; cases e; cases o
        · rw [List.getElem?_eq_none (by simpa using hi)] at e; cases e
      · rw [List.getElem?_set_ne hj] at e; exact ⟨hj, e⟩
    obtain ⟨n1, e1⟩ := nj j x e1 o1
    obtain ⟨n2, e2⟩ := nj k y e2 o2
    rw [List.getElem?_set_ne n1] at s1
    rw [List.getElem?_set_ne n2] at s2
    exact R.inj j k x y a e1 e2 o1 o2 s1 s2
/-- nothing is known of a slot any more -/
theorem Rel.drop1 (R : Rel S Z env σ H) {i : Nat} {v : Option V} : Rel S Z (env.set i .no) (σ.set i v) H := by
  refine ⟨R.oin, R.sub, R.hnd, R.hsub, R.frame, R.ehnd, R.nhnd, by simp [R.len], fun j x e => ?_, fun j k x y a e1 e2 o1 o2 s1 s2 => ?_, fun a ha => let q := R.res a ha; ⟨q.ino, q.nh, q.ne, q.no.set rfl⟩, R.tabs, R.osb⟩
  · by_cases hj : i = j
    · subst hj
      by_cases hi : i < env.length
      · rw [List.getElem?_set_self hi] at e; cases e
        trivial
      · rw [List.getElem?_eq_none (by simpa using hi)] at e; cases e
    · rw [List.getElem?_set_ne hj] at e
      have := R.slots j x e
      have es : (σ.set i v)[j]? = σ[j]? := List.getElem?_set_ne hj
      cases x with
      | no => trivial
      | pin a dd fs => exact ⟨es.trans this.1, this.2⟩
      | val d => obtain ⟨w, e, r⟩ := this; exact ⟨w, es.trans e, r⟩
      | own a xs => obtain ⟨vs, e, q⟩ := this; exact ⟨vs, es.trans e, q⟩
      | ownd a xs => obtain ⟨vs, ds, e, q⟩ := this; exact ⟨vs, ds, es.trans e, q⟩
  · have nj : ∀ (j : Nat) (x : Sl), (env.set i .no)[j]? = some x → x.owns = true → i ≠ j ∧ env[j]? = some x := fun j x e o => by
      by_cases hj : i = j
      · subst hj
        by_cases hi : i < env.length
        · rw [List.getElem?_set_self hi] at e; cases e; cases o
        · rw [List.getElem?_eq_none (by simpa using hi)] at e; cases e
      · rw [List.getElem?_set_ne hj] at e; exact ⟨hj, e⟩
    obtain ⟨n1, e1⟩ := nj j x e1 o1
    obtain ⟨n2, e2⟩ := nj k y e2 o2
    rw [List.getElem?_set_ne n1] at s1
    rw [List.getElem?_set_ne n2] at s2
    exact R.inj j k x y a e1 e2 o1 o2 s1 s2
/-- an unknown slot is known -/
theorem Rel.reslot (R : Rel S Z env σ H) {i : Nat} {x : Sl} (e : env[i]? = some .no) (hx : x.owns = false) (h : SlotOk S Z σ H i x) : Rel S Z (env.set i x) σ H := by
  have hi : i < env.length := (List.getElem?_eq_some_iff.mp e).1
  have nj : ∀ (j : Nat) (y : Sl), (env.set i x)[j]? = some y → y.owns = true → i ≠ j ∧ env[j]? = some y := fun j y ej o => by
    by_cases hj : i = j
    · subst hj
      rw [List.getElem?_set_self hi] at ej; cases ej; rw [hx] at o; cases o
    · rw [List.getElem?_set_ne hj] at ej; exact ⟨hj, ej⟩
  refine ⟨R.oin, R.sub, R.hnd, R.hsub, R.frame, R.ehnd, R.nhnd, by simp [R.len], fun j y ej => ?_, fun j k y z a e1 e2 o1 o2 s1 s2 => R.inj j k y z a (nj j y e1 o1).2 (nj k z e2 o2).2 o1 o2 s1 s2, fun a ha => ?_, R.tabs, R.osb⟩
  · by_cases hj : i = j
    · subst hj
      rw [List.getElem?_set_self hi] at ej; cases ej; exact h
    · rw [List.getElem?_set_ne hj] at ej; exact R.slots j y ej
  · have q := R.res a ha
    exact ⟨q.ino, q.nh, q.ne, fun j y ej o s => q.no j y (nj j y ej o).2 o s⟩
/-- what stands at a hidden address, of an owning slot's content x -/
def OwnAt (S : Ent) (Z : Zs) (H : Hp) (a : Addr) : Sl → Prop
  | .own b xs => b = a ∧ ∃ vs, H a = some (.lst vs) ∧ RepL S.G (vis Z.O H) Z.h vs xs
  | .ownd b kvs => b = a ∧ ∃ vs ds, RepL S.G (vis Z.O H) Z.h vs ds ∧
      ((∃ hk : List (Key × V), H a = some (.dK hk) ∧ vs = hk.map (·.2) ∧ kvs = (hk.map fun p => dKey p.1).zip ds) ∨
       (∃ hk : List (List Key × V), H a = some (.dT hk) ∧ vs = hk.map (·.2) ∧ kvs = (hk.map fun p => tKey p.1).zip ds))
  | _ => False
theorem SlotOk.of_own {a : Addr} {x : Sl} {i : Nat} (e : σ[i]? = some (some (.ref a))) (h1 : a ∈ Z.O) (h2 : Z.h ≠ some a) (h3 : S.H a = none) (h : OwnAt S Z H a x) : SlotOk S Z σ H i x := by
  cases x with
  | no => exact h.elim
  | pin _ _ _ => exact h.elim
  | val d => exact h.elim
  | own b xs => obtain ⟨rfl, vs, q1, q2⟩ := h; exact ⟨vs, e, h1, h2, h3, q1, q2⟩
  | ownd b kvs => obtain ⟨rfl, vs, ds, q1, q2⟩ := h; exact ⟨vs, ds, e, h1, h2, h3, q1, q2⟩
theorem SlotOk.to_own {x : Sl} {i : Nat} (h : SlotOk S Z σ H i x) (o : x.owns = true) : ∃ a, σ[i]? = some (some (.ref a)) ∧ a ∈ Z.O ∧ Z.h ≠ some a ∧ S.H a = none ∧ OwnAt S Z H a x := by
  cases x with
  | no => cases o
  | pin _ _ _ => cases o
  | val d => cases o
  | own a xs => obtain ⟨vs, e, h1, h2, h3, q1, q2⟩ := h; exact ⟨a, e, h1, h2, h3, rfl, vs, q1, q2⟩
  | ownd a kvs => obtain ⟨vs, ds, e, h1, h2, h3, q1, q2⟩ := h; exact ⟨a, e, h1, h2, h3, rfl, vs, ds, q1, q2⟩
/-- an own list is stored -/
theorem Rel.putOwn (R : Rel S Z env σ H) {i : Nat} {a : Addr} {x : Sl} (ho : x.owns = true) (h1 : a ∈ Z.O) (h2 : Z.h ≠ some a) (h3 : S.H a = none) (h : OwnAt S Z H a x) (n : NotOwned env σ a) (nb : a ∉ Z.B) : Rel S Z (env.set i x) (σ.set i (some (.ref a))) H := by
  have R0 := R.drop1 (i := i) (v := some (.ref a))
  by_cases hi : i < env.length
  · have hs : i < σ.length := by rw [← R.len]; exact hi
    refine ⟨R.oin, R.sub, R.hnd, R.hsub, R.frame, R.ehnd, R.nhnd, by simp [R.len], fun j y e => ?_, fun j k y z b e1 e2 o1 o2 s1 s2 => ?_, fun b hb => let q := R.res b hb; ⟨q.ino, q.nh, q.ne, fun j y e o s => ?_⟩, R.tabs, R.osb⟩
    · by_cases hj : i = j
      · subst hj
        rw [List.getElem?_set_self hi] at e; cases e
        exact .of_own (by rw [List.getElem?_set_self hs]) h1 h2 h3 h
      · rw [List.getElem?_set_ne hj] at e
        exact R0.slots j y (by rw [List.getElem?_set_ne hj]; exact e)
    · have key : ∀ (j : Nat) (y : Sl), (env.set i x)[j]? = some y → y.owns = true → (σ.set i (some (V.ref a)))[j]? = some (some (V.ref b)) → (i = j ∧ b = a) ∨ (i ≠ j ∧ env[j]? = some y ∧ σ[j]? = some (some (V.ref b))) := fun j y e o s => by
        by_cases hj : i = j
        · subst hj
          rw [List.getElem?_set_self hs] at s; cases s
          exact .inl ⟨rfl, rfl⟩
        · rw [List.getElem?_set_ne hj] at e s
          exact .inr ⟨hj, e, s⟩
      rcases key j y e1 o1 s1 with ⟨p1, p2⟩ | ⟨p1, p2, p3⟩ <;> rcases key k z e2 o2 s2 with ⟨q1, q2⟩ | ⟨q1, q2, q3⟩
      · rw [← p1, ← q1]
      · exact absurd (by rw [← p2]; exact q3) (n k z q2 o2)
      · exact absurd (by rw [← q2]; exact p3) (n j y p2 o1)
      · exact R.inj j k y z b p2 q2 o1 o2 p3 q3
    · by_cases hj : i = j
      · subst hj
        rw [List.getElem?_set_self hs] at s; cases s
        exact nb hb
      · rw [List.getElem?_set_ne hj] at e s
        exact q.no j y e o s
  · have e1 : env.set i x = env := List.set_eq_of_length_le (by omega)
    have e2 : σ.set i (some (.ref a)) = σ := List.set_eq_of_length_le (by rw [← R.len]; omega)
    rw [e1, e2]; exact R
theorem own_pln {x : Sl} {i : Nat} {a : Addr} (h : SlotOk S Z σ H i x) (o : x.owns = true) (es : σ[i]? = some (some (.ref a))) : ∃ u, H a = some u ∧ Pln u := by
  cases x with
  | no => cases o
  | pin _ _ _ => cases o
  | val d => cases o
  | own b xs =>
    obtain ⟨vs, e, _, _, _, q1, _⟩ := h
    rw [es] at e; cases e
    exact ⟨_, q1, plain_lst⟩
  | ownd b xs =>
    obtain ⟨vs, ds, e, _, _, _, _, q⟩ := h
    rw [es] at e; cases e
    rcases q with ⟨hk, q1, _⟩ | ⟨hk, q1, _⟩
    · exact ⟨_, q1, plain_dK⟩
    · exact ⟨_, q1, plain_dT⟩
/-- an own list is written -/
theorem Rel.write (R : Rel S Z env σ H) {i : Nat} {a : Addr} {x y : Sl} {o : HO} (e : env[i]? = some x) (hx : x.owns = true) (hy : y.owns = true) (es : σ[i]? = some (some (.ref a))) (h : OwnAt S Z (upd H a o) a y) : Rel S Z (env.set i y) σ (upd H a o) := by
  obtain ⟨a', es', h1, h2, h3, _⟩ := (R.slots i x e).to_own hx
  rw [es] at es'; cases es'
  have hv : vis Z.O (upd H a o) = vis Z.O H := vis_upd_in h1
  have hi : i < env.length := (List.getElem?_eq_some_iff.mp e).1
  refine ⟨fun b hb => ?_, R.sub, fun b hb => ?_, R.hsub, fun b u q n => ?_, R.ehnd, R.nhnd, by simp [R.len], fun j z ej => ?_, fun j k z w b e1 e2 o1 o2 s1 s2 => ?_, fun b hb => let q := R.res b hb; ⟨q.ino, q.nh, q.ne, fun j z ej o s => ?_⟩, ?_, R.osb⟩
  · by_cases hba : b = a
    · rw [hba, upd_same]; simp
    · rw [upd_ne hba]; exact R.oin b hb
  · refine (R.hnd b hb).mono (R.hin b hb) (fun _ n _ => n) fun c u q hc => ?_
    rw [upd_ne]
    · exact q
    · rintro rfl
      rcases hc with z | z
      · exact h2 (by rw [z]; exact hb)
      · exact z h1
  · obtain ⟨u', e1, e2⟩ := R.frame b u q n
    exact ⟨u', by rw [upd_ne (fun z => by rw [z, h3] at q; cases q)]; exact e1, e2⟩
  · by_cases hj : i = j
    · subst hj
      rw [List.getElem?_set_self hi] at ej; cases ej
      exact .of_own es h1 h2 h3 h
    · rw [List.getElem?_set_ne hj] at ej
      refine (R.slots j z ej).mono ⟨fun b u q => by rw [hv]; exact q, fun _ h => h⟩ fun c oc sc g1 g2 g3 => ⟨g1, g3, fun u q _ => ?_⟩
      rw [upd_ne]
      · exact q
      rintro rfl
      exact hj (R.inj i j x z c e ej hx oc es sc)
  · have key : ∀ (j : Nat) (z : Sl), (env.set i y)[j]? = some z → z.owns = true → ∃ z', env[j]? = some z' ∧ z'.owns = true := fun j z ej o => by
      by_cases hj : i = j
      · subst hj; exact ⟨x, e, hx⟩
      · rw [List.getElem?_set_ne hj] at ej; exact ⟨z, ej, o⟩
    obtain ⟨z', f1, f2⟩ := key j z e1 o1
    obtain ⟨w', g1, g2⟩ := key k w e2 o2
    exact R.inj j k z' w' b f1 g1 f2 g2 s1 s2
  · by_cases hj : i = j
    · subst hj; exact q.no i x e hx s
    · rw [List.getElem?_set_ne hj] at ej; exact q.no j z ej o s
  · obtain ⟨u, e1, e2⟩ := own_pln (R.slots i x e) hx es
    exact tabs_upd R.tabs e1 e2
/-- a new object is laid, hidden -/
theorem Rel.hide (R : Rel S Z env σ H) {p : Addr} {o : HO} (hp : H p = none) : Rel S ⟨p :: Z.O, Z.h, Z.B⟩ env σ (upd H p o) ∧ Tr Z H ⟨p :: Z.O, Z.h, Z.B⟩ (upd H p o) ∧ NotOwned env σ p ∧ S.H p = none ∧ Z.h ≠ some p ∧ p ∉ Z.O := by
  have hn : p ∉ Z.O := R.free hp
  have h0 := R.fresh0 hp
  have hhp : Z.h ≠ some p := fun z => hn (R.hin p z)
  have k := same_upd (o := o) hp
  have hv : vis (p :: Z.O) (upd H p o) = vis Z.O H := by
    rw [vis_upd_in List.mem_cons_self, vis_cons hp]
  have no : NotOwned env σ p := fun j x e ho s => by
    obtain ⟨a, s', q, _⟩ := (R.slots j x e).to_own ho
    rw [s] at s'; cases s'
    exact hn q
  refine ⟨⟨fun b hb => ?_, fun b hb => List.mem_cons_of_mem _ (R.sub b hb), fun b hb => ?_, R.hsub, fun b u q n => (R.frame b u q n).trans fun o' e' => .of (k b o' e'), R.ehnd, R.nhnd, R.len, fun j x e => ?_, R.inj, fun b hb => let q := R.res b hb; ⟨List.mem_cons_of_mem _ q.ino, q.nh, q.ne, q.no⟩, R.tabs.ext k, fun b hb => (List.mem_cons.mp hb).elim (fun z => .inr (by rw [z]; exact h0)) (R.osb b)⟩, ⟨fun b u q _ => .of (k b u q), fun b hb => ?_, fun _ h => h, fun _ h => .inl h, rfl⟩, no, h0, hhp, hn⟩
  · rcases List.mem_cons.mp hb with rfl | hb
    · rw [upd_same]; simp
    · cases q : H b with
      | none => exact absurd q (R.oin b hb)
      | some u => rw [k b u q]; simp
  · refine (R.hnd b hb).mono (List.mem_cons_of_mem _ (R.hin b hb)) (fun c n hc z => ?_) fun c u q _ => k c u q
    rcases List.mem_cons.mp z with rfl | z
    · exact hc hp
    · exact n z
  · refine (R.slots j x e).mono ⟨fun b u q => by rw [hv]; exact q, fun _ h => h⟩ fun c oc sc g1 g2 g3 => ⟨List.mem_cons_of_mem _ g1, g3, fun u q _ => ?_⟩
    rw [upd_ne]
    · exact q
    rintro rfl
    exact hn g1
  · rcases List.mem_cons.mp hb with rfl | hb
    · exact .inr hp
    · exact .inl hb
/-- a hidden object that no slot owns is shown -/
theorem Rel.unhide (R : Rel S Z env σ H) {p : Addr} (no : NotOwned env σ p) (h0 : S.H p = none) (hhp : Z.h ≠ some p) (sp : p ∉ S.Z.O) (nb : p ∉ Z.B) : Rel S ⟨Z.O.filter fun b => decide (b ≠ p), Z.h, Z.B⟩ env σ H ∧ Vle Z H ⟨Z.O.filter fun b => decide (b ≠ p), Z.h, Z.B⟩ H := by
  have mem : ∀ b, b ∈ Z.O.filter (fun b => decide (b ≠ p)) ↔ b ∈ Z.O ∧ b ≠ p := fun b => by simp
  have v : Vle Z H ⟨Z.O.filter fun b => decide (b ≠ p), Z.h, Z.B⟩ H := ⟨fun b u q => by
    obtain ⟨h1, h2⟩ := vis_some q
    exact vis_out (fun z => h1 ((mem b).mp z).1) h2 (vis_nt q), fun _ h => h⟩
  refine ⟨⟨fun b hb => R.oin b ((mem b).mp hb).1, fun b hb => (mem b).mpr ⟨R.sub b hb, fun z => sp (by rw [← z]; exact hb)⟩, fun b hb => ?_, R.hsub, R.frame, R.ehnd, R.nhnd, R.len, fun j x e => ?_, R.inj, fun b hb => let q := R.res b hb; ⟨(mem b).mpr ⟨q.ino, fun z => nb (by rw [← z]; exact hb)⟩, q.nh, q.ne, q.no⟩, R.tabs, fun b hb => R.osb b ((mem b).mp hb).1⟩, v⟩
  · exact (R.hnd b hb).mono ((mem b).mpr ⟨R.hin b hb, fun z => hhp (by rw [← z]; exact hb)⟩) (fun c n _ z => n ((mem c).mp z).1) fun _ _ q _ => q
  · refine (R.slots j x e).mono v fun c oc sc g1 g2 g3 => ⟨(mem c).mpr ⟨g1, fun z => ?_⟩, g3, fun _ q _ => q⟩
    subst z
    exact no j x e oc sc
theorem set_getD {α : Type} {l : List (Option α)} {i : Nat} {x : Option α} (h : l[i]? = some x) : l.set i x = l := by
  apply List.ext_getElem?
  intro j
  by_cases hj : i = j
  · subst hj
    rw [List.getElem?_set_self (List.getElem?_eq_some_iff.mp h).1, h]
  · rw [List.getElem?_set_ne hj]
theorem Rel.entOut (R : Rel S Z env σ H) {a : Addr} (h : S.H a = none) : a ∉ S.Z.O := fun z => R.ehnd a z h
/-- an own list becomes a value -/
theorem Rel.freeze (R : Rel S Z env σ H) {i : Nat} {a : Addr} {xs : List D} (e : env[i]? = some (.own a xs)) :
    ∃ (Z' : Zs), σ[i]? = some (some (.ref a)) ∧ Rel S Z' (env.set i (.val (.lst xs))) σ H ∧ Tr Z H Z' H ∧ Rep S.G (vis Z'.O H) Z'.h (.ref a) (.lst xs) := by
  obtain ⟨vs, es, h1, h2, h3, h4, h5⟩ := R.slots i _ e
  have R1 := R.drop1 (i := i) (v := some (.ref a))
  rw [set_getD es] at R1
  have no : NotOwned (env.set i .no) σ a := fun j x ej o s => by
    by_cases hj : i = j
    · subst hj
      rw [List.getElem?_set_self (List.getElem?_eq_some_iff.mp e).1] at ej; cases ej; cases o
    · rw [List.getElem?_set_ne hj] at ej
      exact hj (R.inj i j _ x a e ej rfl o es s)
  obtain ⟨R2, v2⟩ := R1.unhide no h3 h2 (R.entOut h3) fun hb => (R.res a hb).no i _ e rfl es
  have rp : Rep S.G (vis (Z.O.filter fun b => decide (b ≠ a)) H) Z.h (.ref a) (.lst xs) := .lst (vis_out (by simp) h4) (v2.repL h5)
  have R3 := R2.put (i := i) rp
  rw [set_getD es, List.set_set] at R3
  exact ⟨_, es, R3, ⟨fun _ _ q _ => .of q, fun b hb => .inl (by simp at hb; exact hb.1), fun _ h => h, fun _ h => .inl h, rfl⟩, rp⟩
theorem Rel.freezeD (R : Rel S Z env σ H) {i : Nat} {a : Addr} {xs : List (D × D)} (e : env[i]? = some (.ownd a xs)) :
    ∃ (Z' : Zs), σ[i]? = some (some (.ref a)) ∧ Rel S Z' (env.set i (.val (.dct xs))) σ H ∧ Tr Z H Z' H ∧ Rep S.G (vis Z'.O H) Z'.h (.ref a) (.dct xs) := by
  obtain ⟨vs, ds, es, h1, h2, h3, h4, h5⟩ := R.slots i _ e
  have R1 := R.drop1 (i := i) (v := some (.ref a))
  rw [set_getD es] at R1
  have no : NotOwned (env.set i .no) σ a := fun j x ej o s => by
    by_cases hj : i = j
    · subst hj
      rw [List.getElem?_set_self (List.getElem?_eq_some_iff.mp e).1] at ej; cases ej; cases o
    · rw [List.getElem?_set_ne hj] at ej
      exact hj (R.inj i j _ x a e ej rfl o es s)
  obtain ⟨R2, v2⟩ := R1.unhide no h3 h2 (R.entOut h3) fun hb => (R.res a hb).no i _ e rfl es
  have rp : Rep S.G (vis (Z.O.filter fun b => decide (b ≠ a)) H) Z.h (.ref a) (.dct xs) := by
    rcases h5 with ⟨hk, q1, q2, q3⟩ | ⟨hk, q1, q2, q3⟩
    · exact .dK (vis_out (by simp) q1) q2 (v2.repL h4) q3
    · exact .dT (vis_out (by simp) q1) q2 (v2.repL h4) q3
  have R3 := R2.put (i := i) rp
  rw [set_getD es, List.set_set] at R3
  exact ⟨_, es, R3, ⟨fun _ _ q _ => .of q, fun b hb => .inl (by simp at hb; exact hb.1), fun _ h => h, fun _ h => .inl h, rfl⟩, rp⟩
/-- a spare object is kept apart, and let go -/
theorem Rel.reserve (R : Rel S Z env σ H) {p : Addr} (sp : Spare S Z env σ p) : Rel S ⟨Z.O, Z.h, p :: Z.B⟩ env σ H :=
  ⟨R.oin, R.sub, R.hnd, R.hsub, R.frame, R.ehnd, R.nhnd, R.len, R.slots, R.inj, fun b hb => by
    rcases List.mem_cons.mp hb with rfl | hb
    · exact ⟨sp.ino, sp.nh, sp.ne, sp.no⟩
    · have q := R.res b hb
      exact ⟨q.ino, q.nh, q.ne, q.no⟩, R.tabs, R.osb⟩
theorem Rel.release (R : Rel S Z env σ H) {p : Addr} {B : List Addr} (e : Z.B = p :: B) : Rel S ⟨Z.O, Z.h, B⟩ env σ H ∧ Spare S ⟨Z.O, Z.h, B⟩ env σ p :=
  ⟨⟨R.oin, R.sub, R.hnd, R.hsub, R.frame, R.ehnd, R.nhnd, R.len, R.slots, R.inj, fun b hb => by
    have q := R.res b (by rw [e]; exact List.mem_cons_of_mem _ hb)
    exact ⟨q.ino, q.nh, q.ne, q.no⟩, R.tabs, R.osb⟩, by
    have q := R.res p (by rw [e]; exact List.mem_cons_self)
    exact ⟨q.ino, q.nh, q.ne, q.no⟩⟩
/-- a spare object is written -/
theorem Rel.poke (R : Rel S Z env σ H) {p : Addr} {o u : HO} (sp : Spare S Z env σ p) (eu : H p = some u) (pu : Pln u) : Rel S Z env σ (upd H p o) := by
  have hv : vis Z.O (upd H p o) = vis Z.O H := vis_upd_in sp.ino
  refine ⟨fun b hb => ?_, R.sub, fun b hb => ?_, R.hsub, fun b u q n => ?_, R.ehnd, R.nhnd, R.len, fun j z ej => ?_, R.inj, R.res, tabs_upd R.tabs eu pu, R.osb⟩
  · by_cases hba : b = p
    · rw [hba, upd_same]; simp
    · rw [upd_ne hba]; exact R.oin b hb
  · refine (R.hnd b hb).mono (R.hin b hb) (fun _ n _ => n) fun c u q hc => ?_
    rw [upd_ne]
    · exact q
    · rintro rfl
      rcases hc with z | z
      · exact sp.nh (by rw [z]; exact hb)
      · exact z sp.ino
  · obtain ⟨u', e1, e2⟩ := R.frame b u q n
    exact ⟨u', by rw [upd_ne (fun z => by rw [z, sp.ne] at q; cases q)]; exact e1, e2⟩
  · refine (R.slots j z ej).mono ⟨fun b u q => by rw [hv]; exact q, fun _ h => h⟩ fun c oc sc g1 g2 g3 => ⟨g1, g3, fun u q _ => ?_⟩
    rw [upd_ne]
    · exact q
    rintro rfl
    exact sp.no j z ej oc sc
/-- a comprehension's own slots -/
def wipeE (env : Env) : List Nat → Env
  | [] => env
  | v :: vs => (wipeE env vs).set v .no
def Sl.keep : Sl → Sl
  | .val d => .val d
  | _ => .no
def restE (env e2 : Env) : List Nat → Env
  | [] => e2
  | v :: vs => (restE env e2 vs).set v ((env[v]?.getD .no).keep)
theorem Rel.wipe (R : Rel S Z env σ H) : ∀ vs : List Nat, Rel S Z (wipeE env vs) (L2.wipe σ vs) H
  | [] => R
  | v :: vs => (R.wipe vs).drop1
def restS (σ s2 : L2.St) : List Nat → L2.St
  | [] => s2
  | v :: vs => (restS σ s2 vs).set v (σ[v]?.getD none)
theorem restS_len (σ s2 : L2.St) : ∀ vs, (restS σ s2 vs).length = s2.length
  | [] => rfl
  | v :: vs => by unfold restS; rw [List.length_set, restS_len σ s2 vs]
theorem restS_get {σ s2 : L2.St} (hl : s2.length = σ.length) (j : Nat) : ∀ vs, (restS σ s2 vs)[j]? = if j ∈ vs then σ[j]? else s2[j]?
  | [] => by simp [restS]
  | v :: vs => by
    unfold restS
    by_cases hj : v = j
    · subst hj
      rw [if_pos List.mem_cons_self]
      by_cases hv : v < σ.length
      · rw [List.getElem?_set_self (by rw [restS_len, hl]; exact hv), List.getElem?_eq_getElem hv]; rfl
      · rw [List.getElem?_eq_none (by rw [List.length_set, restS_len]; omega), List.getElem?_eq_none (by omega)]
    · rw [List.getElem?_set_ne hj, restS_get hl j vs]
      have : j ∈ v :: vs ↔ j ∈ vs := by simp [Ne.symm hj]
      simp [this]
theorem restS_wipe (σ : L2.St) (vs : List Nat) : restS σ (L2.wipe σ vs) vs = σ := by
  apply List.ext_getElem?
  intro j
  rw [restS_get (wipe_length σ vs) j vs]
  split
  · rfl
  · rename_i h; exact wipe_out h
theorem Rel.rest (R : Rel S Z env σ H) {e2 : Env} {s2 : L2.St} (v : Vle Z H Z2 H2) (R2 : Rel S Z2 e2 s2 H2) : ∀ vs : List Nat, Rel S Z2 (restE env e2 vs) (restS σ s2 vs) H2
  | [] => R2
  | i :: vs => by
    have R3 := Rel.rest R v R2 vs
    unfold restE restS
    cases e : env[i]? with
    | none => exact R3.drop1
    | some x =>
      cases x with
      | val d =>
        obtain ⟨w, es, r⟩ := R.slots i _ e
        rw [es]
        exact R3.put (v.rep r)
      | no => exact R3.drop1
      | pin _ _ _ => exact R3.drop1
      | own _ _ => exact R3.drop1
      | ownd _ _ => exact R3.drop1
/-- back from a comprehension's block -/
theorem Rel.back (R : Rel S Z env σ H) {e2 : Env} {vs : List Nat} (v : Vle Z H Z2 H2) (R2 : Rel S Z2 e2 (L2.wipe σ vs) H2) : Rel S Z2 (restE env e2 vs) σ H2 := by
  have := R.rest v R2 vs
  rw [restS_wipe] at this
  exact this
end
end DV

set_option Elab.async false
set_option linter.all false
set_option maxRecDepth 100000
/-! DV2: the judgements over plain data, and the rules of expressions. -/
namespace DV
open PySem PySem.Spec PyProof.Rows L2

abbrev Ex := Er → Env → Prop
abbrev Tm := Env → (D → Env → Prop) → Ex → Prop
abbrev Tt := Env → (Bool → Env → Prop) → Ex → Prop
abbrev TmL := Env → (List D → Env → Prop) → Ex → Prop
abbrev Tf := Env → (Sl → Env → Prop) → Ex → Prop

def ErrOk (G : Pg) (Z : Zs) (H : Hp) (cls : Value) (dd : Option Addr) (er : Er) : Prop :=
  ∃ C, G.ET er.1 = some C ∧ cls = .ref C ∧ ErD G (vis Z.O H) Z.h dd er.2
/-- what an expression's errors come to -/
def ExOk (S : Ent) (Z : Zs) (H : Hp) (σ : L2.St) (E : Ex) (W : WX) : Prop :=
  ∀ Z' env' cls dd er H', Rel S Z' env' σ H' → Tr Z H Z' H' → ErrOk S.G Z' H' cls dd er → E er env' → W cls dd σ H'
theorem ExOk.on {S : Ent} {Z Z' : Zs} {H H' : Hp} {σ : L2.St} {E : Ex} {W : WX} {env : Env} (h : ExOk S Z H σ E W) (R : Rel S Z' env σ H') (t : Tr Z H Z' H') : ExOk S Z' H' σ E W :=
  fun Z2 env2 cls dd er H2 R2 t2 e q => h Z2 env2 cls dd er H2 R2 (Tr.trans R t t2) e q
/-- a statement's -/
def ExV (S : Ent) (Z : Zs) (H : Hp) (σ : L2.St) (E : Ex) (W : WX) : Prop :=
  ∀ Z' env' cls dd er H', Rel S Z' env' σ H' → Vle Z H Z' H' → ErrOk S.G Z' H' cls dd er → E er env' → W cls dd σ H'
theorem ExV.on {S : Ent} {Z Z' : Zs} {H H' : Hp} {σ : L2.St} {E : Ex} {W : WX} (h : ExV S Z H σ E W) (v : Vle Z H Z' H') : ExV S Z' H' σ E W :=
  fun Z2 env2 cls dd er H2 R2 v2 e q => h Z2 env2 cls dd er H2 R2 (v.trans v2) e q
theorem ExV.ok {S : Ent} {Z : Zs} {H : Hp} {σ : L2.St} {E : Ex} {W : WX} {env : Env} (h : ExV S Z H σ E W) (R : Rel S Z env σ H) : ExOk S Z H σ E W :=
  fun Z2 env2 cls dd er H2 R2 t2 e q => h Z2 env2 cls dd er H2 R2 (R.vle t2) e q

/-- a result that may be stored; one that may only be looked at (an own list too) -/
abbrev RT := Pg → Zs → Hp → V → D → Prop
def RS : RT := fun G Z H v d => Rep G (vis Z.O H) Z.h v d
def RB : RT := fun G Z H v d => Rep G (vis Z.O H) Z.h v d ∨
  (∃ a vs xs, v = .ref a ∧ d = .lst xs ∧ Z.h ≠ some a ∧ H a = some (.lst vs) ∧ RepL G (vis Z.O H) Z.h vs xs) ∨
  (∃ a vs ds kvs, v = .ref a ∧ d = .dct kvs ∧ Z.h ≠ some a ∧ RepL G (vis Z.O H) Z.h vs ds ∧
      ((∃ hk : List (Key × V), H a = some (.dK hk) ∧ vs = hk.map (·.2) ∧ kvs = (hk.map fun p => dKey p.1).zip ds) ∨
       (∃ hk : List (List Key × V), H a = some (.dT hk) ∧ vs = hk.map (·.2) ∧ kvs = (hk.map fun p => tKey p.1).zip ds)))
theorem RB.of {G : Pg} {Z : Zs} {H : Hp} {v : V} {d : D} (h : RS G Z H v d) : RB G Z H v d := .inl h
section
variable {S : Ent} {Z Z' : Zs} {env : Env} {σ : L2.St} {H H' : Hp} {G : Pg} {v : V} {d : D}
theorem RS.on (h : RS G Z H v d) (R : Rel S Z env σ H) (t : Tr Z H Z' H') : RS G Z' H' v d := (R.vle t).rep h
theorem RB.on (h : RB G Z H v d) (R : Rel S Z env σ H) (t : Tr Z H Z' H') : RB G Z' H' v d := by
  have ne : ∀ a o, Z.h ≠ some a → H a = some o → Z'.h ≠ some a := fun a o n e z => by
    rcases t.hz a z with q | q
    · exact n q
    · rw [e] at q; cases q
  rcases h with h | ⟨a, vs, xs, rfl, rfl, n, e, r⟩ | ⟨a, vs, ds, kvs, rfl, rfl, n, r, ⟨hk, e, q⟩ | ⟨hk, e, q⟩⟩
  · exact .inl ((R.vle t).rep h)
  · exact .inr (.inl ⟨a, vs, xs, rfl, rfl, ne a _ n e, (t.keep _ _ e n).lst, (R.vle t).repL r⟩)
  · exact .inr (.inr ⟨a, vs, ds, kvs, rfl, rfl, ne a _ n e, (R.vle t).repL r, .inl ⟨hk, (t.keep _ _ e n).dK, q⟩⟩)
  · exact .inr (.inr ⟨a, vs, ds, kvs, rfl, rfl, ne a _ n e, (R.vle t).repL r, .inr ⟨hk, (t.keep _ _ e n).dT, q⟩⟩)
theorem RB.lst {xs : List D} (h : RB G Z H v (.lst xs)) : ∃ a vs, v = .ref a ∧ H a = some (.lst vs) ∧ RepL G (vis Z.O H) Z.h vs xs := by
  rcases h with h | ⟨a, vs, ys, rfl, e, n, h, r⟩ | ⟨a, vs, ds, kvs, rfl, e, _⟩
  · cases h with
    | lst e r => exact ⟨_, _, rfl, (vis_some e).2, r⟩
  · cases e; exact ⟨a, vs, rfl, h, r⟩
  · cases e
theorem sqT_vis {K : PySem.W.Frag} {O : List Addr} {a : Addr} {xs : List V} (h : SqT K (vis O H) a xs) : SqT K H a xs := sqT_same (fun _ _ e => (vis_some e).2) h
theorem RB.tup {xs : List D} (h : RB G Z H v (.tup xs)) : ∃ a vs, v = .ref a ∧ SqT G.K H a vs ∧ RepL G (vis Z.O H) Z.h vs xs := by
  rcases h with h | ⟨a, vs, ys, rfl, e, n, h, r⟩ | ⟨a, vs, ds, kvs, rfl, e, _⟩
  · cases h with
    | tup e r => exact ⟨_, _, rfl, sqT_vis e, r⟩
  · cases e
  · cases e
theorem RB.int {i : Int} (h : RB G Z H v (.int i)) : v = .int i := by
  rcases h with h | ⟨a, vs, ys, rfl, e, n, h, r⟩ | ⟨a, vs, ds, kvs, rfl, e, _⟩
  · cases h; rfl
  · cases e
  · cases e
theorem RB.bl {i : Bool} (h : RB G Z H v (.bl i)) : v = .bl i := by
  rcases h with h | ⟨a, vs, ys, rfl, e, n, h, r⟩ | ⟨a, vs, ds, kvs, rfl, e, _⟩
  · cases h; rfl
  · cases e
  · cases e
theorem RB.str {i : Str} (h : RB G Z H v (.str i)) : v = .str i := by
  rcases h with h | ⟨a, vs, ys, rfl, e, n, h, r⟩ | ⟨a, vs, ds, kvs, rfl, e, _⟩
  · cases h; rfl
  · cases e
  · cases e
theorem RB.non (h : RB G Z H v .non) : v = .non := by
  rcases h with h | ⟨a, vs, ys, rfl, e, n, h, r⟩ | ⟨a, vs, ds, kvs, rfl, e, _⟩
  · cases h; rfl
  · cases e
  · cases e
end

/-- an expression's judgement: T tells, over plain slots, what it asks and gives -/
structure DX (S : Ent) (Rr : RT) (X : Cx) (e : Expr) (T : Tm) : Prop where
  run : ∀ W, Takes X W → ∃ t, PE X e t ∧ ∀ Z env σ H Q E Q', Rel S Z env σ H → T env Q E →
    (∀ Z' env' v d H', Rel S Z' env' σ H' → Tr Z H Z' H' → Rr S.G Z' H' v d → Q d env' → Q' v H') → ExOk S Z H σ E W → t σ H Q'
abbrev DE (S : Ent) := DX S RS
abbrev DB (S : Ent) := DX S RB
/-- a test's -/
structure DT (S : Ent) (X : Cx) (e : Expr) (T : Tt) : Prop where
  run : ∀ W, Takes X W → ∃ t, PT X e t ∧ ∀ Z env σ H Q E (Q' : Bool → Hp → Prop), Rel S Z env σ H → T env Q E →
    (∀ Z' env' b H', Rel S Z' env' σ H' → Tr Z H Z' H' → Q b env' → Q' b H') → ExOk S Z H σ E W → t σ H Q'
structure DW (S : Ent) (X : Cx) (e : Expr) (T : Tt) : Prop where
  run : ∀ W, Takes X W → ∃ t, PW X e t ∧ ∀ Z env σ H Q E (Q' : Bool → Hp → Prop), Rel S Z env σ H → T env Q E →
    (∀ Z' env' b H', Rel S Z' env' σ H' → Tr Z H Z' H' → Q b env' → Q' b H') → ExOk S Z H σ E W → t σ H Q'
/-- an argument list's -/
structure DA (S : Ent) (Rr : RT) (X : Cx) (es : List Expr) (T : TmL) : Prop where
  run : ∀ W, Takes X W → ∃ t, PA X es t ∧ ∀ Z env σ H Q E (Q' : List V → Hp → Prop), Rel S Z env σ H → T env Q E →
    (∀ Z' env' vs ds H', Rel S Z' env' σ H' → Tr Z H Z' H' → vs.length = ds.length → (∀ (i : Nat) v d, vs[i]? = some v → ds[i]? = some d → Rr S.G Z' H' v d) → Q ds env' → Q' vs H') → ExOk S Z H σ E W → t σ H Q'
/-- a new list's (a new dict's) -/
structure DF (S : Ent) (X : Cx) (e : Expr) (T : Tf) : Prop where
  run : ∀ W, Takes X W → ∃ t, PE X e t ∧ ∀ Z env σ H Q E Q', Rel S Z env σ H → T env Q E →
    (∀ Z' env' a x H', Rel S Z' env' σ H' → Tr Z H Z' H' → Spare S Z' env' σ a → a ∉ Z'.B → x.owns = true → OwnAt S Z' H' a x → Q x env' → Q' (.ref a) H') → ExOk S Z H σ E W → t σ H Q'

section
variable {S : Ent} {X : Cx}
theorem RepL.of_all {G : Pg} {H : Hp} {hh : Option Addr} : ∀ {vs : List V} {ds : List D}, vs.length = ds.length → (∀ (i : Nat) v d, vs[i]? = some v → ds[i]? = some d → Rep G H hh v d) → RepL G H hh vs ds
  | [], [], _, _ => .nil
  | [], _ :: _, h, _ => by cases h
  | _ :: _, [], h, _ => by cases h
  | v :: vs, d :: ds, h, q => .cons (q 0 v d rfl rfl) (RepL.of_all (Nat.succ.inj h) fun i v d e1 e2 => q (i + 1) v d e1 e2)
theorem DB.of {e : Expr} {T : Tm} (h : DE S X e T) : DB S X e T := ⟨fun W tk => by
  obtain ⟨t, p, q⟩ := h.run W tk
  exact ⟨t, p, fun Z env σ H Q E Q' R hT k x => q Z env σ H Q E Q' R hT (fun Z' env' v d H' R' t' r hq => k Z' env' v d H' R' t' (.inl r) hq) x⟩⟩

/-! ### names and constants -/
def wVal (i : Nat) : Tm := fun env Q _ => match env[i]? with
  | some (.val d) => Q d env
  | some (.own _ xs) => Q (.lst xs) (env.set i (.val (.lst xs)))
  | some (.ownd _ xs) => Q (.dct xs) (env.set i (.val (.dct xs)))
  | _ => False
/-- looked at -/
def wLook (i : Nat) : Tm := fun env Q _ => match env[i]? with
  | some (.val d) => Q d env
  | some (.own _ xs) => Q (.lst xs) env
  | some (.ownd _ xs) => Q (.dct xs) env
  | _ => False
def wC (d : D) : Tm := fun env Q _ => Q d env
theorem dx_var (i : Nat) {x : Str} {pos : Pos} (hN : X.N[i]? = some x := by rfl) (hv : Vis X.env.scope x := by first | exact Or.inl rfl | exact Or.inr (Or.inl rfl) | exact Or.inr (Or.inr rfl)) (hd : (x == ("__debug__" : Str)) = false := by decide)
    (hcd : (x == ("__classdict__" : Str)) = false := by decide) : DE S X (.Name x pos) (wVal i) := ⟨fun W tk => ⟨_, pe_var hN hv hd hcd, fun Z env σ H Q E Q' R hT k _ => by
  unfold wVal at hT
  split at hT
  · rename_i d e
    obtain ⟨v, es, r⟩ := R.slots i _ e
    exact ⟨v, es, k Z env v d H R .refl r hT⟩
  · rename_i a xs e
    obtain ⟨Z', es, R', t, r⟩ := R.freeze e
    exact ⟨.ref a, es, k Z' _ _ _ H R' t r hT⟩
  · rename_i a xs e
    obtain ⟨Z', es, R', t, r⟩ := R.freezeD e
    exact ⟨.ref a, es, k Z' _ _ _ H R' t r hT⟩
  · exact hT.elim⟩⟩
theorem db_var (i : Nat) {x : Str} {pos : Pos} (hN : X.N[i]? = some x := by rfl) (hv : Vis X.env.scope x := by first | exact Or.inl rfl | exact Or.inr (Or.inl rfl) | exact Or.inr (Or.inr rfl)) (hd : (x == ("__debug__" : Str)) = false := by decide)
    (hcd : (x == ("__classdict__" : Str)) = false := by decide) : DB S X (.Name x pos) (wLook i) := ⟨fun W tk => ⟨_, pe_var hN hv hd hcd, fun Z env σ H Q E Q' R hT k _ => by
  unfold wLook at hT
  split at hT
  · rename_i d e
    obtain ⟨v, es, r⟩ := R.slots i _ e
    exact ⟨v, es, k Z env v d H R .refl (.inl r) hT⟩
  · rename_i a xs e
    obtain ⟨vs, es, h1, h2, h3, h4, h5⟩ := R.slots i _ e
    exact ⟨.ref a, es, k Z env _ _ H R .refl (.inr (.inl ⟨a, vs, xs, rfl, rfl, h2, h4, h5⟩)) hT⟩
  · rename_i a xs e
    obtain ⟨vs, ds, es, h1, h2, h3, h4, h5⟩ := R.slots i _ e
    exact ⟨.ref a, es, k Z env _ _ H R .refl (.inr (.inr ⟨a, vs, ds, xs, rfl, rfl, h2, h4, h5⟩)) hT⟩
  · exact hT.elim⟩⟩
theorem dx_const {e : Expr} {v : V} {d : D} (p : PE X e (tC v)) (r : ∀ G H hh, Rep G H hh v d) : DE S X e (wC d) := ⟨fun W tk => ⟨_, p, fun Z env σ H Q E Q' R hT k _ => k Z env v d H R .refl (r _ _ _) hT⟩⟩
theorem dx_int {i : Int} {j pos} : DE S X (.Constant (.int i) j pos) (wC (.int i)) := dx_const pe_int fun _ _ _ => .int i
theorem dx_bl {b j pos} : DE S X (.Constant (.bool b) j pos) (wC (.bl b)) := dx_const pe_bl fun _ _ _ => .bl b
theorem dx_non {j pos} : DE S X (.Constant .none j pos) (wC .non) := dx_const pe_non fun _ _ _ => .non
theorem dx_str {x j pos} : DE S X (.Constant (.str x) j pos) (wC (.str x)) := dx_const pe_str fun _ _ _ => .str x
/-- a module's constant: an int -/
theorem dx_globI {x : Str} {i : Int} {pos : Pos} (hm : ∃ t, X.mg x = some (.int i t)) (hg : Gl X x := by rfl) (hd : (x == ("__debug__" : Str)) = false := by decide) : DE S X (.Name x pos) (wC (.int i)) := by
  obtain ⟨t, hm⟩ := hm
  exact dx_const (pe_glob (v := .int i) hg hm ⟨t, rfl⟩ hd) fun _ _ _ => .int i

/-! ### two operands -/
def wOp (g : D → D → (D → Prop) → Prop) (Ta Tb : Tm) : Tm := fun env Q E => Ta env (fun x env1 => Tb env1 (fun y env2 => g x y fun z => Q z env2) E) E
/-- what a rule of two values gives, told over plain data: nothing but new objects comes -/
def Lift2 (G : Pg) (r : R2) (g : D → D → (D → Prop) → Prop) : Prop :=
  ∀ Z H x y dx dy (Qd : D → Prop) Q', RB G Z H x dx → RB G Z H y dy → g dx dy Qd → (∀ v d H', Same H H' → (∀ a ∈ Z.O, H a ≠ none) → RS G Z H' v d → Qd d → Q' v H') → (∀ a ∈ Z.O, H a ≠ none) → r x y H Q'
def OpD (S : Ent) (X : Cx) (f : Value → Value → Sem Value) (g : D → D → (D → Prop) → Prop) : Prop := ∃ r, OpR X f r ∧ Lift2 S.G r g
variable {a b c : Expr} {Ta Tb Tc : Tm} {pos : Pos}
theorem run2 {ta tb : TE} {r : R2} {g : D → D → (D → Prop) → Prop} (hl : Lift2 S.G r g) {W : WX}
    (ra : ∀ Z env σ H Q E Q', Rel S Z env σ H → Ta env Q E → (∀ Z' env' v d H', Rel S Z' env' σ H' → Tr Z H Z' H' → RB S.G Z' H' v d → Q d env' → Q' v H') → ExOk S Z H σ E W → ta σ H Q')
    (rb : ∀ Z env σ H Q E Q', Rel S Z env σ H → Tb env Q E → (∀ Z' env' v d H', Rel S Z' env' σ H' → Tr Z H Z' H' → RB S.G Z' H' v d → Q d env' → Q' v H') → ExOk S Z H σ E W → tb σ H Q')
    {Z : Zs} {env : Env} {σ : L2.St} {H : Hp} {Q : D → Env → Prop} {E : Ex} {Q' : VK} (R : Rel S Z env σ H) (hT : wOp g Ta Tb env Q E)
    (k : ∀ Z' env' v d H', Rel S Z' env' σ H' → Tr Z H Z' H' → RS S.G Z' H' v d → Q d env' → Q' v H') (x : ExOk S Z H σ E W) : tOp r ta tb σ H Q' := by
  refine ra Z env σ H _ E _ R hT (fun Z1 env1 v1 d1 H1 R1 t1 r1 h1 => ?_) x
  refine rb Z1 env1 σ H1 _ E _ R1 h1 (fun Z2 env2 v2 d2 H2 R2 t2 r2 h2 => ?_) (x.on R1 t1)
  have t12 := Tr.trans R1 t1 t2
  exact hl Z2 H2 v1 v2 d1 d2 _ _ (r1.on R1 t2) r2 h2 (fun v d H3 sm _ r3 q => k Z2 env2 v d H3 (R2.grow sm) (Tr.trans R2 t12 (.alloc sm)) r3 q) R2.oin
theorem dx_op {op : Operator} {g : D → D → (D → Prop) → Prop} (ho : OpD S X (binaryOp op) g) (ha : DB S X a Ta) (hb : DB S X b Tb) : DE S X (.BinOp a op b pos) (wOp g Ta Tb) := ⟨fun W tk => by
  obtain ⟨r, o, hl⟩ := ho
  obtain ⟨ta, pa, ra⟩ := ha.run W tk
  obtain ⟨tb, pb, rb⟩ := hb.run W tk
  exact ⟨_, pe_op o pa pb, fun Z env σ H Q E Q' R hT k x => run2 hl ra rb R hT k x⟩⟩
theorem dx_cmp {op : CmpOp} {g : D → D → (D → Prop) → Prop} (ho : OpD S X (compareOp op) g) (ha : DB S X a Ta) (hb : DB S X b Tb) (hm : behindInMarks op b = false) : DE S X (.Compare a [op] [b] pos) (wOp g Ta Tb) := ⟨fun W tk => by
  obtain ⟨r, o, hl⟩ := ho
  obtain ⟨ta, pa, ra⟩ := ha.run W tk
  obtain ⟨tb, pb, rb⟩ := hb.run W tk
  exact ⟨_, pe_cmpR o pa pb hm, fun Z env σ H Q E Q' R hT k x => run2 hl ra rb R hT k x⟩⟩
/-- an expression that gives a flag, as a test -/
def wTst (T : Tm) : Tt := fun env Q E => T env (fun d env1 => ∃ k, d = .bl k ∧ Q k env1) E
theorem dt_cmp {op : CmpOp} {g : D → D → (D → Prop) → Prop} (ho : OpD S X (compareOp op) g) (ha : DB S X a Ta) (hb : DB S X b Tb) (hm : behindInMarks op b = false) : DT S X (.Compare a [op] [b] pos) (wTst (wOp g Ta Tb)) := ⟨fun W tk => by
  obtain ⟨r, o, hl⟩ := ho
  obtain ⟨ta, pa, ra⟩ := ha.run W tk
  obtain ⟨tb, pb, rb⟩ := hb.run W tk
  refine ⟨_, pt_cmpR o pa pb hm, fun Z env σ H Q E Q' R hT k x => ?_⟩
  refine run2 hl ra rb R hT (fun Z' env' v d H' R' t r hq => ?_) x
  obtain ⟨kk, rfl, hq⟩ := hq
  exact ⟨kk, RB.bl (.inl r), k Z' env' kk H' R' t hq⟩⟩
theorem dt_val {e : Expr} {T : Tm} (h : DE S X e T) (he : ∀ whole, isTrue e X.env whole = (do let v ← whole; standAt e.pos; holding [v] (truthy v)) := by intro _; rfl) : DT S X e (wTst T) := ⟨fun W tk => by
  obtain ⟨t, p, q⟩ := h.run W tk
  refine ⟨_, pt_val p he, fun Z env σ H Q E Q' R hT k x => ?_⟩
  refine q Z env σ H _ E _ R hT (fun Z' env' v d H' R' t r hq => ?_) x
  obtain ⟨kk, rfl, hq⟩ := hq
  exact ⟨kk, RB.bl (.inl r), k Z' env' kk H' R' t hq⟩⟩
/-- a < b < c -/
def wChain (g g' : D → D → (D → Prop) → Prop) (Ta Tb Tc : Tm) : Tm := fun env Q E => Ta env (fun x env1 => Tb env1 (fun y env2 => g x y fun z => ∃ k, z = .bl k ∧ if k = true then Tc env2 (fun u env3 => g' y u fun z => Q z env3) E else Q (.bl false) env2) E) E
theorem run3 {ta tb tc : TE} {r r' : R2} {g g' : D → D → (D → Prop) → Prop} (hl : Lift2 S.G r g) (hl' : Lift2 S.G r' g') {W : WX}
    (ra : ∀ Z env σ H Q E Q', Rel S Z env σ H → Ta env Q E → (∀ Z' env' v d H', Rel S Z' env' σ H' → Tr Z H Z' H' → RB S.G Z' H' v d → Q d env' → Q' v H') → ExOk S Z H σ E W → ta σ H Q')
    (rb : ∀ Z env σ H Q E Q', Rel S Z env σ H → Tb env Q E → (∀ Z' env' v d H', Rel S Z' env' σ H' → Tr Z H Z' H' → RB S.G Z' H' v d → Q d env' → Q' v H') → ExOk S Z H σ E W → tb σ H Q')
    (rc : ∀ Z env σ H Q E Q', Rel S Z env σ H → Tc env Q E → (∀ Z' env' v d H', Rel S Z' env' σ H' → Tr Z H Z' H' → RB S.G Z' H' v d → Q d env' → Q' v H') → ExOk S Z H σ E W → tc σ H Q')
    {Z : Zs} {env : Env} {σ : L2.St} {H : Hp} {Q : D → Env → Prop} {E : Ex} {Q' : VK} (R : Rel S Z env σ H) (hT : wChain g g' Ta Tb Tc env Q E)
    (k : ∀ Z' env' v d H', Rel S Z' env' σ H' → Tr Z H Z' H' → RS S.G Z' H' v d → Q d env' → Q' v H') (x : ExOk S Z H σ E W) : tChain r r' ta tb tc σ H Q' := by
  refine ra Z env σ H _ E _ R hT (fun Z1 env1 v1 d1 H1 R1 t1 r1 h1 => ?_) x
  refine rb Z1 env1 σ H1 _ E _ R1 h1 (fun Z2 env2 v2 d2 H2 R2 t2 r2 h2 => ?_) (x.on R1 t1)
  have t12 := Tr.trans R1 t1 t2
  refine hl Z2 H2 v1 v2 d1 d2 _ _ (r1.on R1 t2) r2 h2 (fun v d H3 sm oin r3 q => ?_) R2.oin
  have R3 := R2.grow sm
  have t123 := Tr.trans R2 t12 (.alloc sm)
  obtain ⟨kk, rfl, q⟩ := q
  refine ⟨kk, RB.bl (.inl r3), ?_⟩
  cases kk with
  | false => exact k Z2 env2 _ _ H3 R3 t123 (.bl false) q
  | true =>
    refine rc Z2 env2 σ H3 _ E _ R3 q (fun Z4 env4 v4 d4 H4 R4 t4 r4 h4 => ?_) (x.on R3 t123)
    have t4' := Tr.trans R3 t123 t4
    exact hl' Z4 H4 v2 v4 d2 d4 _ _ ((r2.on R2 (.alloc sm)).on R3 t4) r4 h4 (fun v d H5 sm _ r5 q => k Z4 env4 v d H5 (R4.grow sm) (Tr.trans R4 t4' (.alloc sm)) r5 q) R4.oin
theorem dx_chain {op op' : CmpOp} {g g' : D → D → (D → Prop) → Prop} (ho : OpD S X (compareOp op) g) (ho' : OpD S X (compareOp op') g') (ha : DB S X a Ta) (hb : DB S X b Tb) (hc : DB S X c Tc)
    (hm : lastMarks [op, op'] [b, c] = false := by with_unfolding_all rfl) : DE S X (.Compare a [op, op'] [b, c] pos) (wChain g g' Ta Tb Tc) := ⟨fun W tk => by
  obtain ⟨r, o, hl⟩ := ho
  obtain ⟨r', o', hl'⟩ := ho'
  obtain ⟨ta, pa, ra⟩ := ha.run W tk
  obtain ⟨tb, pb, rb⟩ := hb.run W tk
  obtain ⟨tc, pc, rc⟩ := hc.run W tk
  exact ⟨_, pe_chain o o' pa pb pc hm, fun Z env σ H Q E Q' R hT k x => run3 hl hl' ra rb rc R hT k x⟩⟩
theorem dt_chain {op op' : CmpOp} {g g' : D → D → (D → Prop) → Prop} (ho : OpD S X (compareOp op) g) (ho' : OpD S X (compareOp op') g') (ha : DB S X a Ta) (hb : DB S X b Tb) (hc : DB S X c Tc)
    (hm : lastMarks [op, op'] [b, c] = false := by with_unfolding_all rfl) : DT S X (.Compare a [op, op'] [b, c] pos) (wTst (wChain g g' Ta Tb Tc)) := ⟨fun W tk => by
  obtain ⟨r, o, hl⟩ := ho
  obtain ⟨r', o', hl'⟩ := ho'
  obtain ⟨ta, pa, ra⟩ := ha.run W tk
  obtain ⟨tb, pb, rb⟩ := hb.run W tk
  obtain ⟨tc, pc, rc⟩ := hc.run W tk
  refine ⟨_, pt_chain o o' pa pb pc hm, fun Z env σ H Q E Q' R hT k x => ?_⟩
  refine run3 hl hl' ra rb rc R hT (fun Z' env' v d H' R' t r hq => ?_) x
  obtain ⟨kk, rfl, hq⟩ := hq
  exact ⟨kk, RB.bl (.inl r), k Z' env' kk H' R' t hq⟩⟩

/-! ### and, or, not, a if t else b -/
variable {A B : Tt} {rest : List Expr} {e : Expr}
def wAnd (A B : Tt) : Tt := fun env Q E => A env (fun k env1 => if k = true then B env1 Q E else Q false env1) E
def wOr (A B : Tt) : Tt := fun env Q E => A env (fun k env1 => if k = true then Q true env1 else B env1 Q E) E
def wNot (A : Tt) : Tt := fun env Q E => A env (fun k env1 => Q (!k) env1) E
theorem DW.dt (h : DW S X e A) : DT S X e A := ⟨fun W tk => by
  obtain ⟨t, p, q⟩ := h.run W tk
  exact ⟨t, p.pt, q⟩⟩
theorem dw_and1 (h : DT S X a A) : DW S X (.BoolOp .And [a] pos) A := ⟨fun W tk => by
  obtain ⟨t, p, q⟩ := h.run W tk
  exact ⟨t, pw_and1 p, q⟩⟩
theorem dw_or1 (h : DT S X a A) : DW S X (.BoolOp .Or [a] pos) A := ⟨fun W tk => by
  obtain ⟨t, p, q⟩ := h.run W tk
  exact ⟨t, pw_or1 p, q⟩⟩
theorem dw_and (ha : DT S X a A) (hb : DW S X (.BoolOp .And (b :: rest) pos) B) : DW S X (.BoolOp .And (a :: b :: rest) pos) (wAnd A B) := ⟨fun W tk => by
  obtain ⟨ta, pa, qa⟩ := ha.run W tk
  obtain ⟨tb, pb, qb⟩ := hb.run W tk
  refine ⟨_, pw_and pa pb, fun Z env σ H Q E Q' R hT k x => ?_⟩
  refine qa Z env σ H _ E _ R hT (fun Z1 env1 kk H1 R1 t1 h1 => ?_) x
  cases kk with
  | true =>
    rw [if_pos rfl] at h1 ⊢
    exact qb Z1 env1 σ H1 Q E Q' R1 h1 (fun Z2 env2 b H2 R2 t2 q => k Z2 env2 b H2 R2 (Tr.trans R1 t1 t2) q) (x.on R1 t1)
  | false =>
    rw [if_neg Bool.false_ne_true] at h1 ⊢
    exact k Z1 env1 false H1 R1 t1 h1⟩
theorem dw_or (ha : DT S X a A) (hb : DW S X (.BoolOp .Or (b :: rest) pos) B) : DW S X (.BoolOp .Or (a :: b :: rest) pos) (wOr A B) := ⟨fun W tk => by
  obtain ⟨ta, pa, qa⟩ := ha.run W tk
  obtain ⟨tb, pb, qb⟩ := hb.run W tk
  refine ⟨_, pw_or pa pb, fun Z env σ H Q E Q' R hT k x => ?_⟩
  refine qa Z env σ H _ E _ R hT (fun Z1 env1 kk H1 R1 t1 h1 => ?_) x
  cases kk with
  | true =>
    rw [if_pos rfl] at h1 ⊢
    exact k Z1 env1 true H1 R1 t1 h1
  | false =>
    rw [if_neg Bool.false_ne_true] at h1 ⊢
    exact qb Z1 env1 σ H1 Q E Q' R1 h1 (fun Z2 env2 b H2 R2 t2 q => k Z2 env2 b H2 R2 (Tr.trans R1 t1 t2) q) (x.on R1 t1)⟩
theorem dt_not (h : DT S X a A) : DT S X (.UnaryOp .Not a pos) (wNot A) := ⟨fun W tk => by
  obtain ⟨t, p, q⟩ := h.run W tk
  refine ⟨_, pt_not p, fun Z env σ H Q E Q' R hT k x => ?_⟩
  exact q Z env σ H _ E _ R hT (fun Z1 env1 kk H1 R1 t1 h1 => k Z1 env1 _ H1 R1 t1 h1) x⟩
/-- .. as values: flags -/
def wAndV (Ta Tb : Tm) : Tm := fun env Q E => Ta env (fun d env1 => ∃ k, d = .bl k ∧ if k = true then Tb env1 Q E else Q (.bl false) env1) E
def wOrV (Ta Tb : Tm) : Tm := fun env Q E => Ta env (fun d env1 => ∃ k, d = .bl k ∧ if k = true then Q (.bl true) env1 else Tb env1 Q E) E
def wNotV (Ta : Tm) : Tm := fun env Q E => Ta env (fun d env1 => ∃ k, d = .bl k ∧ Q (.bl (!k)) env1) E
theorem dx_one {op} {T : Tm} (h : DE S X a T) : DE S X (.BoolOp op [a] pos) T := ⟨fun W tk => by
  obtain ⟨t, p, q⟩ := h.run W tk
  exact ⟨t, pe_one p, q⟩⟩
theorem dx_and (ha : DE S X a Ta) (hb : DE S X (.BoolOp .And (b :: rest) pos) Tb) : DE S X (.BoolOp .And (a :: b :: rest) pos) (wAndV Ta Tb) := ⟨fun W tk => by
  obtain ⟨ta, pa, qa⟩ := ha.run W tk
  obtain ⟨tb, pb, qb⟩ := hb.run W tk
  refine ⟨_, pe_and pa pb, fun Z env σ H Q E Q' R hT k x => ?_⟩
  refine qa Z env σ H _ E _ R hT (fun Z1 env1 v d H1 R1 t1 r1 h1 => ?_) x
  obtain ⟨kk, rfl, h1⟩ := h1
  refine ⟨kk, RB.bl (.inl r1), ?_⟩
  cases kk with
  | true =>
    rw [if_pos rfl] at h1 ⊢
    exact qb Z1 env1 σ H1 Q E Q' R1 h1 (fun Z2 env2 v d H2 R2 t2 r q => k Z2 env2 v d H2 R2 (Tr.trans R1 t1 t2) r q) (x.on R1 t1)
  | false =>
    rw [if_neg Bool.false_ne_true] at h1 ⊢
    exact k Z1 env1 _ _ H1 R1 t1 (.bl false) h1⟩
theorem dx_or (ha : DE S X a Ta) (hb : DE S X (.BoolOp .Or (b :: rest) pos) Tb) : DE S X (.BoolOp .Or (a :: b :: rest) pos) (wOrV Ta Tb) := ⟨fun W tk => by
  obtain ⟨ta, pa, qa⟩ := ha.run W tk
  obtain ⟨tb, pb, qb⟩ := hb.run W tk
  refine ⟨_, pe_or pa pb, fun Z env σ H Q E Q' R hT k x => ?_⟩
  refine qa Z env σ H _ E _ R hT (fun Z1 env1 v d H1 R1 t1 r1 h1 => ?_) x
  obtain ⟨kk, rfl, h1⟩ := h1
  refine ⟨kk, RB.bl (.inl r1), ?_⟩
  cases kk with
  | true =>
    rw [if_pos rfl] at h1 ⊢
    exact k Z1 env1 _ _ H1 R1 t1 (.bl true) h1
  | false =>
    rw [if_neg Bool.false_ne_true] at h1 ⊢
    exact qb Z1 env1 σ H1 Q E Q' R1 h1 (fun Z2 env2 v d H2 R2 t2 r q => k Z2 env2 v d H2 R2 (Tr.trans R1 t1 t2) r q) (x.on R1 t1)⟩
theorem dx_not (ha : DE S X a Ta) : DE S X (.UnaryOp .Not a pos) (wNotV Ta) := ⟨fun W tk => by
  obtain ⟨ta, pa, qa⟩ := ha.run W tk
  refine ⟨_, pe_not pa, fun Z env σ H Q E Q' R hT k x => ?_⟩
  refine qa Z env σ H _ E _ R hT (fun Z1 env1 v d H1 R1 t1 r1 h1 => ?_) x
  obtain ⟨kk, rfl, h1⟩ := h1
  exact ⟨kk, RB.bl (.inl r1), k Z1 env1 _ _ H1 R1 t1 (.bl _) h1⟩⟩
def wIf (A : Tt) (Ta Tb : Tm) : Tm := fun env Q E => A env (fun k env1 => if k = true then Ta env1 Q E else Tb env1 Q E) E
theorem dx_if {Rr : RT} {c : Expr} (hc : DT S X c A) (ha : DX S Rr X a Ta) (hb : DX S Rr X b Tb) : DX S Rr X (.IfExp c a b pos) (wIf A Ta Tb) := ⟨fun W tk => by
  obtain ⟨tc, pc, qc⟩ := hc.run W tk
  obtain ⟨ta, pa, qa⟩ := ha.run W tk
  obtain ⟨tb, pb, qb⟩ := hb.run W tk
  refine ⟨_, pe_ifExp pc pa pb, fun Z env σ H Q E Q' R hT k x => ?_⟩
  refine qc Z env σ H _ E _ R hT (fun Z1 env1 kk H1 R1 t1 h1 => ?_) x
  cases kk with
  | true =>
    rw [if_pos rfl] at h1 ⊢
    exact qa Z1 env1 σ H1 Q E Q' R1 h1 (fun Z2 env2 v d H2 R2 t2 r q => k Z2 env2 v d H2 R2 (Tr.trans R1 t1 t2) r q) (x.on R1 t1)
  | false =>
    rw [if_neg Bool.false_ne_true] at h1 ⊢
    exact qb Z1 env1 σ H1 Q E Q' R1 h1 (fun Z2 env2 v d H2 R2 t2 r q => k Z2 env2 v d H2 R2 (Tr.trans R1 t1 t2) r q) (x.on R1 t1)⟩

/-! ### argument lists, displays -/
variable {es : List Expr} {Tr' : TmL}
def wNil : TmL := fun env Q _ => Q [] env
def wCons (Ta : Tm) (T : TmL) : TmL := fun env Q E => Ta env (fun d env1 => T env1 (fun ds env2 => Q (d :: ds) env2) E) E
theorem da_nil {Rr : RT} : DA S Rr X [] wNil := ⟨fun W tk => ⟨_, pa_nil, fun Z env σ H Q E Q' R hT k x => k Z env [] [] H R .refl rfl (fun i v d e _ => by simp at e) hT⟩⟩
theorem da_cons {Rr : RT} (ron : ∀ {Z env σ H Z' H' v d}, Rr S.G Z H v d → Rel S Z env σ H → Tr Z H Z' H' → Rr S.G Z' H' v d) (ha : DX S Rr X e Ta) (hr : DA S Rr X es Tr') (hs : starEach (e :: es) X.env = (false, eval e X.env) :: starEach es X.env := by rfl) :
    DA S Rr X (e :: es) (wCons Ta Tr') := ⟨fun W tk => by
  obtain ⟨ta, pa, qa⟩ := ha.run W tk
  obtain ⟨tr, pr, qr⟩ := hr.run W tk
  refine ⟨_, pa_cons pa pr hs, fun Z env σ H Q E Q' R hT k x => ?_⟩
  refine qa Z env σ H _ E _ R hT (fun Z1 env1 v d H1 R1 t1 r1 h1 => ?_) x
  refine qr Z1 env1 σ H1 _ E _ R1 h1 (fun Z2 env2 vs ds H2 R2 t2 hl r2 h2 => ?_) (x.on R1 t1)
  refine k Z2 env2 _ (d :: ds) H2 R2 (Tr.trans R1 t1 t2) (congrArg (· + 1) hl) (fun i v' d' e1 e2 => ?_) h2
  cases i with
  | zero => simp at e1 e2; subst e1 e2; exact ron r1 R1 t2
  | succ i => exact r2 i v' d' (by simpa using e1) (by simpa using e2)⟩
theorem da_cS (ha : DE S X e Ta) (hr : DA S RS X es Tr') (hs : starEach (e :: es) X.env = (false, eval e X.env) :: starEach es X.env := by rfl) : DA S RS X (e :: es) (wCons Ta Tr') :=
  da_cons (fun h R t => RS.on h R t) ha hr hs
theorem da_cB (ha : DB S X e Ta) (hr : DA S RB X es Tr') (hs : starEach (e :: es) X.env = (false, eval e X.env) :: starEach es X.env := by rfl) : DA S RB X (e :: es) (wCons Ta Tr') :=
  da_cons (fun h R t => RB.on h R t) ha hr hs
def big : Nat := 10000000
theorem big_line {n : Nat} (h : n ≤ big) : n ≤ sizeLine := by rw [sizeLine_eq]; unfold big at h; omega
section
variable {G : Pg} {Z : Zs} {H : Hp} {p : Addr} {vs : List V} {ds : List D}
theorem same_vis {O : List Addr} {H H' : Hp} (k : Same H H') : Same (vis O H) (vis O H') := fun b o e => by
  obtain ⟨h1, h2⟩ := vis_some e
  exact vis_out h1 (k b o h2) (vis_nt e)
theorem new_tup (oin : ∀ a ∈ Z.O, H a ≠ none) (hp : H p = none) (r : RepL G (vis Z.O H) Z.h vs ds) : RS G Z (upd H p (.tup vs)) (.ref p) (.tup ds) := by
  have hn : p ∉ Z.O := fun z => oin p z hp
  exact .tup (SqT.of (vis_out hn upd_same)) (r.mono (same_vis (same_upd hp)) fun _ h => h)
theorem new_lst (oin : ∀ a ∈ Z.O, H a ≠ none) (hp : H p = none) (r : RepL G (vis Z.O H) Z.h vs ds) : RS G Z (upd H p (.lst vs)) (.ref p) (.lst ds) := by
  have hn : p ∉ Z.O := fun z => oin p z hp
  exact .lst (vis_out hn upd_same) (r.mono (same_vis (same_upd hp)) fun _ h => h)
end
def wTup (T : TmL) : Tm := fun env Q E => T env (fun ds env1 => ds.length ≤ big ∧ Q (.tup ds) env1) E
theorem dx_tup {x1} (h : DA S RS X es Tr') : DE S X (.Tuple es x1 pos) (wTup Tr') := ⟨fun W tk => by
  obtain ⟨t, p, q⟩ := h.run W tk
  refine ⟨_, pe_tup p, fun Z env σ H Q E Q' R hT k x => ?_⟩
  refine q Z env σ H _ E _ R hT (fun Z1 env1 vs ds H1 R1 t1 hl r1 h1 => ?_) x
  obtain ⟨hz, h1⟩ := h1
  refine ⟨by rw [hl]; exact big_line hz, fun p hp => ?_⟩
  exact k Z1 env1 _ _ _ (R1.grow (same_upd hp)) (Tr.trans R1 t1 (.alloc (same_upd hp))) (new_tup R1.oin hp (.of_all hl r1)) h1⟩
def wLst (T : TmL) : Tf := fun env Q E => T env (fun ds env1 => ds.length ≤ big ∧ ∀ a, Q (.own a ds) env1) E
theorem df_lst (h : DA S RS X es Tr') : DF S X (.List es pos) (wLst Tr') := ⟨fun W tk => by
  obtain ⟨t, p, q⟩ := h.run W tk
  refine ⟨_, pe_lst p, fun Z env σ H Q E Q' R hT k x => ?_⟩
  refine q Z env σ H _ E _ R hT (fun Z1 env1 vs ds H1 R1 t1 hl r1 h1 => ?_) x
  obtain ⟨hz, h1⟩ := h1
  refine ⟨by rw [hl]; exact big_line hz, fun p hp => ?_⟩
  obtain ⟨R2, t2, no, h0, hh, hn⟩ := R1.hide (o := .lst vs) hp
  refine k _ env1 p (.own p ds) _ R2 (Tr.trans R1 t1 t2) ⟨List.mem_cons_self, hh, h0, no⟩ (fun hb => hn (R1.res p hb).ino) rfl ⟨rfl, vs, upd_same, ?_⟩ (h1 p)
  exact (R1.vle t2).repL (.of_all hl r1)⟩
/-- a new list as a value -/
def Sl.toD : Sl → D
  | .own _ xs => .lst xs
  | .ownd _ xs => .dct xs
  | .val d => d
  | .no => .non
  | .pin _ _ _ => .non
def wF (T : Tf) : Tm := fun env Q E => T env (fun x env1 => Q x.toD env1) E
theorem OwnAt.show {Z : Zs} {H : Hp} {p : Addr} {x : Sl} (h : OwnAt S Z H p x) {Z' : Zs} (v : Vle Z H Z' H) (hn : p ∉ Z'.O) : RS S.G Z' H (.ref p) x.toD := by
  cases x with
  | no => exact h.elim
  | pin _ _ _ => exact h.elim
  | val d => exact h.elim
  | own b xs =>
    obtain ⟨rfl, vs, q1, q2⟩ := h
    exact .lst (vis_out hn q1) (v.repL q2)
  | ownd b kvs =>
    obtain ⟨rfl, vs, ds, q1, ⟨hk, e1, e2, e3⟩ | ⟨hk, e1, e2, e3⟩⟩ := h
    · exact .dK (vis_out hn e1) e2 (v.repL q1) e3
    · exact .dT (vis_out hn e1) e2 (v.repL q1) e3
theorem dx_f {T : Tf} (h : DF S X e T) : DE S X e (wF T) := ⟨fun W tk => by
  obtain ⟨t, p, q⟩ := h.run W tk
  refine ⟨_, p, fun Z env σ H Q E Q' R hT k x => ?_⟩
  refine q Z env σ H _ E _ R hT (fun Z1 env1 a y H1 R1 t1 sp nb hy oa h1 => ?_) x
  obtain ⟨R2, v2⟩ := R1.unhide sp.no sp.ne sp.nh (R1.entOut sp.ne) nb
  refine k _ env1 (.ref a) y.toD H1 R2 ?_ (oa.show v2 (by simp)) h1
  exact Tr.trans R1 t1 ⟨fun _ _ q _ => .of q, fun b hb => .inl (by simp at hb; exact hb.1), fun _ h => h, fun _ h => .inl h, rfl⟩⟩
end
end DV

set_option Elab.async false
set_option linter.all false
set_option maxRecDepth 100000
/-! DV3: operators over plain data. -/
namespace DV
open PySem PySem.Spec PyProof.Rows L2

abbrev G2 := D → D → (D → Prop) → Prop
section
variable {S : Ent} {X : Cx}
theorem Same.rfl' {H : Hp} : Same H H := fun _ _ e => e
/-! ### plus, minus, times, the rest -/
def gAdd : G2 := fun x y Q => match x, y with
  | .int i, .int j => Q (.int (i + j))
  | .str a, .str b => a.length + b.length ≤ big ∧ Q (.str (a ++ b))
  | .tup xs, .tup ys => xs.length + ys.length ≤ big ∧ Q (.tup (xs ++ ys))
  | .lst xs, .lst ys => xs.length + ys.length ≤ big ∧ Q (.lst (xs ++ ys))
  | _, _ => False
theorem od_add (hK : X.K = S.G.K) : OpD S X (binaryOp .Add) gAdd := by
  refine ⟨_, op_add.or (op_add_str.or (op_catA.or op_cat)), fun Z H x y dx dy Qd Q' rx ry hg k oin => ?_⟩
  unfold gAdd at hg
  split at hg
  · rw [rx.int, ry.int]
    exact .inl ⟨_, _, rfl, rfl, k _ _ _ Same.rfl' oin (.int _) hg⟩
  · rw [rx.str, ry.str]
    exact .inr (.inl ⟨_, _, rfl, rfl, big_line hg.1, k _ _ _ Same.rfl' oin (.str _) hg.2⟩)
  · rename_i xs ys
    obtain ⟨a, vs, rfl, ea, ra⟩ := rx.tup
    obtain ⟨b, ws, rfl, eb, rb⟩ := ry.tup
    rw [← hK] at ea eb
    refine .inr (.inr (.inl ⟨a, b, vs, ws, rfl, rfl, ea, eb, by rw [ra.length, rb.length]; exact big_line hg.1, fun e => ?_, fun n e => ?_, fun n1 n2 p hp => ?_⟩))
    · subst e
      cases ra
      have : RS S.G Z H (.ref b) (.tup ys) := by
        rcases ry with r | ⟨_, _, _, _, e, _⟩ | ⟨_, _, _, _, _, e, _⟩
        · exact r
        · cases e
        · cases e
      exact k _ _ _ Same.rfl' oin this hg.2
    · subst e
      cases rb
      have : RS S.G Z H (.ref a) (.tup xs) := by
        rcases rx with r | ⟨_, _, _, _, e, _⟩ | ⟨_, _, _, _, _, e, _⟩
        · exact r
        · cases e
        · cases e
      have e2 : xs ++ [] = xs := List.append_nil xs
      rw [e2] at hg
      exact k _ _ _ Same.rfl' oin this hg.2
    · exact k _ _ _ (same_upd hp) oin (new_tup oin hp (ra.append rb)) hg.2
  · obtain ⟨a, vs, rfl, ea, ra⟩ := rx.lst
    obtain ⟨b, ws, rfl, eb, rb⟩ := ry.lst
    exact .inr (.inr (.inr ⟨a, b, vs, ws, rfl, rfl, ea, eb, by rw [ra.length, rb.length]; exact big_line hg.1, fun p hp => k _ _ _ (same_upd hp) oin (new_lst oin hp (ra.append rb)) hg.2⟩))
  · exact hg.elim
def gSub : G2 := fun x y Q => match x, y with
  | .int i, .int j => Q (.int (i - j))
  | _, _ => False
theorem od_sub : OpD S X (binaryOp .Sub) gSub := by
  refine ⟨_, op_sub, fun Z H x y dx dy Qd Q' rx ry hg k oin => ?_⟩
  unfold gSub at hg
  split at hg
  · rw [rx.int, ry.int]
    exact ⟨_, _, rfl, rfl, k _ _ _ Same.rfl' oin (.int _) hg⟩
  · exact hg.elim
def gMul : G2 := fun x y Q => match x, y with
  | .int i, .int j => CMul i j ∧ Q (.int (i * j))
  | .lst xs, .int k => k < 1000000 ∧ xs.length * k.toNat ≤ big ∧ -1000000 < k ∧ Q (.lst (List.replicate k.toNat xs).flatten)
  | .tup xs, .int k => xs ≠ [] ∧ 2 ≤ k ∧ k ≤ 1000 ∧ xs.length ≤ 1000 ∧ Q (.tup (List.replicate k.toNat xs).flatten)
  | _, _ => False
theorem od_mul (hK : X.K = S.G.K) : OpD S X (binaryOp .Mult) gMul := by
  refine ⟨_, op_mul.or (op_rep.or op_repT), fun Z H x y dx dy Qd Q' rx ry hg k oin => ?_⟩
  unfold gMul at hg
  split at hg
  · rw [rx.int, ry.int]
    exact .inl ⟨_, _, rfl, rfl, hg.1, k _ _ _ Same.rfl' oin (.int _) hg.2⟩
  · obtain ⟨a, vs, rfl, ea, ra⟩ := rx.lst
    rw [ry.int]
    exact .inr (.inl ⟨a, _, vs, rfl, rfl, ea, by omega, by omega, by rw [ra.length]; exact big_line hg.2.1, fun p hp => k _ _ _ (same_upd hp) oin (new_lst oin hp (ra.rep _)) hg.2.2.2⟩)
  · obtain ⟨a, vs, rfl, ea, ra⟩ := rx.tup
    rw [ry.int]
    rw [← hK] at ea
    refine .inr (.inr ⟨a, _, vs, rfl, rfl, ea, fun e => ?_, hg.2.1, hg.2.2.1, by rw [ra.length]; exact hg.2.2.2.1, fun p hp => k _ _ _ (same_upd hp) oin (new_tup oin hp (ra.rep _)) hg.2.2.2.2⟩)
    subst e
    cases ra
    exact hg.1 rfl
  · exact hg.elim
/-- the divisor is above nought -/
def gMod : G2 := fun x y Q => match x, y with
  | .int i, .int j => 0 < j ∧ Q (.int (i % j))
  | _, _ => False
theorem od_mod : OpD S X (binaryOp .Mod) gMod := by
  refine ⟨_, op_mod, fun Z H x y dx dy Qd Q' rx ry hg k oin => ?_⟩
  unfold gMod at hg
  split at hg
  · rw [rx.int, ry.int]
    exact ⟨_, _, rfl, rfl, hg.1, k _ _ _ Same.rfl' oin (.int _) hg.2⟩
  · exact hg.elim
/-- the divisor is above nought, below 2 ^ 30 -/
def gDiv : G2 := fun x y Q => match x, y with
  | .int i, .int j => 0 < j ∧ j < 1073741824 ∧ Q (.int (i / j))
  | _, _ => False
theorem od_div : OpD S X (binaryOp .FloorDiv) gDiv := by
  refine ⟨_, op_fdiv, fun Z H x y dx dy Qd Q' rx ry hg k oin => ?_⟩
  unfold gDiv at hg
  split at hg
  · rw [rx.int, ry.int]
    exact ⟨_, _, rfl, rfl, ⟨hg.1, hg.2.1⟩, k _ _ _ Same.rfl' oin (.int _) hg.2.2⟩
  · exact hg.elim
def gPow : G2 := fun x y Q => match x, y with
  | .int i, .int j => CPow i j ∧ Q (.int (i ^ j.toNat))
  | _, _ => False
theorem od_pow : OpD S X (binaryOp .Pow) gPow := by
  refine ⟨_, op_pow, fun Z H x y dx dy Qd Q' rx ry hg k oin => ?_⟩
  unfold gPow at hg
  split at hg
  · rw [rx.int, ry.int]
    exact ⟨_, _, rfl, rfl, hg.1, k _ _ _ Same.rfl' oin (.int _) hg.2⟩
  · exact hg.elim
/-! ### order -/
def gCmp (p : Int → Int → Bool) : G2 := fun x y Q => match x, y with
  | .int i, .int j => Q (.bl (p i j))
  | _, _ => False
theorem od_int {f : Value → Value → Sem Value} {p : Int → Int → Bool} (o : OpR X f (rI0 fun i j => .bl (p i j))) : OpD S X f (gCmp p) := by
  refine ⟨_, o, fun Z H x y dx dy Qd Q' rx ry hg k oin => ?_⟩
  unfold gCmp at hg
  split at hg
  · rw [rx.int, ry.int]
    exact ⟨_, _, rfl, rfl, k _ _ _ Same.rfl' oin (.bl _) hg⟩
  · exact hg.elim
def gLt : G2 := gCmp fun i j => decide (i < j)
def gLe : G2 := gCmp fun i j => decide (i ≤ j)
def gGt : G2 := gCmp fun i j => decide (j < i)
def gGe : G2 := gCmp fun i j => decide (j ≤ i)
theorem od_lt : OpD S X (compareOp .Lt) gLt := od_int op_lt
theorem od_le : OpD S X (compareOp .LtE) gLe := od_int op_le
theorem od_gt : OpD S X (compareOp .Gt) gGt := od_int op_gt
theorem od_ge : OpD S X (compareOp .GtE) gGe := od_int op_ge
end

/-! ### equal data -/
mutual
def pd : D → PyData
  | .non => .none
  | .bl b => .bool b
  | .int i => .int i
  | .str s => .str s
  | .tup xs => .tuple (pdL xs)
  | .lst xs => .list (pdL xs)
  | .dct _ => .none
  | .obj _ _ => .none
  | .frz _ => .none
  | .hand => .none
def pdL : List D → List PyData
  | [] => []
  | x :: xs => pd x :: pdL xs
end
mutual
/-- data that may be compared: at most n deep, no dicts, no objects -/
def okD : D → Nat → Bool
  | .non, _ => true
  | .bl _, _ => true
  | .int _, _ => true
  | .str s, _ => PyData.canLay0 (.str s)
  | .tup xs, n => match n with
    | 0 => false
    | n + 1 => okL xs n
  | .lst xs, n => match n with
    | 0 => false
    | n + 1 => okL xs n
  | .dct _, _ => false
  | .obj _ _, _ => false
  | .frz _, _ => false
  | .hand, _ => false
def okL : List D → Nat → Bool
  | [], _ => true
  | x :: xs, n => okD x n && okL xs n
end
mutual
theorem okD_pd : ∀ (d : D) (n : Nat), okD d n = true → (pd d).canLay0 = true ∧ (pd d).depth ≤ n
  | .non, _, _ => ⟨rfl, Nat.zero_le _⟩
  | .bl _, _, _ => ⟨rfl, Nat.zero_le _⟩
  | .int _, _, _ => ⟨rfl, Nat.zero_le _⟩
  | .str s, n, h => ⟨by rw [okD] at h; rw [pd]; exact h, by rw [pd, PyData.depth]; exact Nat.zero_le _⟩
  | .tup xs, 0, h => by rw [okD] at h; cases h
  | .tup xs, n + 1, h => by
    rw [okD] at h
    have := okL_pd xs n h
    rw [pd, PyData.canLay0, PyData.depth]
    exact ⟨this.1, Nat.succ_le_succ this.2⟩
  | .lst xs, 0, h => by rw [okD] at h; cases h
  | .lst xs, n + 1, h => by
    rw [okD] at h
    have := okL_pd xs n h
    rw [pd, PyData.canLay0, PyData.depth]
    exact ⟨this.1, Nat.succ_le_succ this.2⟩
  | .dct _, _, h => by rw [okD] at h; cases h
  | .obj _ _, _, h => by rw [okD] at h; cases h
  | .frz _, _, h => by rw [okD] at h; cases h
  | .hand, _, h => by rw [okD] at h; cases h
theorem okL_pd : ∀ (ds : List D) (n : Nat), okL ds n = true → PyData.canLayAll0 (pdL ds) = true ∧ PyData.depthAll (pdL ds) ≤ n
  | [], _, _ => ⟨by rw [pdL, PyData.canLayAll0], by rw [pdL, PyData.depthAll]; exact Nat.zero_le _⟩
  | x :: xs, n, h => by
    rw [okL, Bool.and_eq_true] at h
    obtain ⟨h1, h2⟩ := okD_pd x n h.1
    obtain ⟨h3, h4⟩ := okL_pd xs n h.2
    rw [pdL, PyData.canLayAll0, PyData.depthAll]
    exact ⟨by rw [h1, h3]; rfl, Nat.max_le.mpr ⟨h2, h4⟩⟩
end
theorem okD_shaped {d : D} (h : okD d 60 = true) : SeqAt.shaped (pd d) = true := by
  obtain ⟨h1, h2⟩ := okD_pd d 60 h
  unfold SeqAt.shaped
  rw [h1, decide_eq_true (by omega)]; rfl
mutual
theorem Rep.dp {G : Pg} {H : Hp} {hh : Option Addr} {O : List Addr} : ∀ {v : V} {d : D} (n : Nat), Rep G (vis O H) hh v d → okD d n = true → Dp G.K H v (pd d)
  | _, _, _, .non, _ => by rw [pd]; exact .non
  | _, _, _, .bl b, _ => by rw [pd]; exact .bl b
  | _, _, _, .int i, _ => by rw [pd]; exact .int i
  | _, _, _, .str s, _ => by rw [pd]; exact .str s
  | _, _, 0, .tup e r, h => by rw [okD] at h; cases h
  | _, _, n + 1, .tup e r, h => by
    rw [okD] at h
    rw [pd]
    exact .tup (sqT_vis e) (RepL.dp n r h)
  | _, _, 0, .lst e r, h => by rw [okD] at h; cases h
  | _, _, n + 1, .lst e r, h => by
    rw [okD] at h
    rw [pd]
    exact .lst (SqL.of (vis_some e).2) (RepL.dp n r h)
  | _, _, _, .dK _ _ _ _, h => by rw [okD] at h; cases h
  | _, _, _, .dT _ _ _ _, h => by rw [okD] at h; cases h
  | _, _, _, .obj _ _ _ _ _, h => by rw [okD] at h; cases h
  | _, _, _, .frz _ _, h => by rw [okD] at h; cases h
  | _, _, _, .hand _, h => by rw [okD] at h; cases h
theorem RepL.dp {G : Pg} {H : Hp} {hh : Option Addr} {O : List Addr} : ∀ {vs : List V} {ds : List D} (n : Nat), RepL G (vis O H) hh vs ds → okL ds n = true → DpAll G.K H vs (pdL ds)
  | _, _, _, .nil, _ => by rw [pdL]; exact .nil
  | _, _, n, .cons r rs, h => by
    rw [okL, Bool.and_eq_true] at h
    rw [pdL]
    exact .cons (Rep.dp n r h.1) (RepL.dp n rs h.2)
end
theorem RB.dp {G : Pg} {Z : Zs} {H : Hp} {v : V} {d : D} (h : RB G Z H v d) (o : okD d 60 = true) : Dp G.K H v (pd d) := by
  rcases h with h | ⟨a, vs, xs, rfl, rfl, n, e, r⟩ | ⟨a, vs, ds, kvs, rfl, rfl, _⟩
  · exact Rep.dp _ h o
  · rw [okD] at o
    rw [pd]
    exact .lst (SqL.of e) (RepL.dp _ r o)
  · rw [okD] at o; cases o
def eqD (x y : D) : Bool := (pd x).eqv (pd y)
def eqL (x y : List D) : Bool := PyData.eqvAll (pdL x) (pdL y)
section
variable {S : Ent} {X : Cx}
def gEq : G2 := fun x y Q => okD x 60 = true ∧ okD y 60 = true ∧ Q (.bl (eqD x y))
def gNe : G2 := fun x y Q => okD x 60 = true ∧ okD y 60 = true ∧ Q (.bl (!eqD x y))
theorem od_eq (hK : X.K = S.G.K) (hu : X.A.units + 64 < cLine) : OpD S X (compareOp .Eq) gEq := by
  refine ⟨_, op_eqD hu, fun Z H x y dx dy Qd Q' rx ry hg k oin => ?_⟩
  obtain ⟨h1, h2, h3⟩ := hg
  refine ⟨pd dx, pd dy, ?_, ?_, okD_shaped h1, okD_shaped h2, k _ _ _ Same.rfl' oin (.bl _) h3⟩
  · rw [hK]; exact rx.dp h1
  · rw [hK]; exact ry.dp h2
theorem od_ne (hK : X.K = S.G.K) (hu : X.A.units + 64 < cLine) : OpD S X (compareOp .NotEq) gNe := by
  refine ⟨_, op_neD hu, fun Z H x y dx dy Qd Q' rx ry hg k oin => ?_⟩
  obtain ⟨h1, h2, h3⟩ := hg
  refine ⟨pd dx, pd dy, ?_, ?_, okD_shaped h1, okD_shaped h2, k _ _ _ Same.rfl' oin (.bl _) h3⟩
  · rw [hK]; exact rx.dp h1
  · rw [hK]; exact ry.dp h2
/-! ### is -/
def isNon : D → Bool
  | .non => true
  | _ => false
/-- is None, is True, is False (the right one written) -/
def gIs : G2 := fun x y Q => match y with
  | .non => Q (.bl (isNon x))
  | .bl b => (match x with | .bl a => Q (.bl (decide (a = b))) | _ => False)
  | _ => False
def gIsN : G2 := fun x y Q => match y with
  | .non => Q (.bl (!isNon x))
  | .bl b => (match x with | .bl a => Q (.bl (!decide (a = b))) | _ => False)
  | _ => False
theorem is_non {G : Pg} {Z : Zs} {H : Hp} {x : V} {d : D} (r : RB G Z H x d) : decide (x = .non) = isNon d := by
  rcases r with r | ⟨a, vs, xs, rfl, rfl, _⟩ | ⟨a, vs, ds, kvs, rfl, rfl, _⟩
  · cases r <;> rfl
  · rfl
  · rfl
theorem od_is : OpD S X (compareOp .Is) gIs := by
  refine ⟨_, op_isN.or op_is_bl, fun Z H x y dx dy Qd Q' rx ry hg k oin => ?_⟩
  unfold gIs at hg
  split at hg
  · rw [ry.non]
    refine .inl ⟨rfl, ?_⟩
    rw [is_non rx]
    exact k _ _ _ Same.rfl' oin (.bl _) hg
  · split at hg
    · rw [rx.bl, ry.bl]
      exact .inr ⟨_, _, rfl, rfl, k _ _ _ Same.rfl' oin (.bl _) hg⟩
    · exact hg.elim
  · exact hg.elim
theorem od_isN : OpD S X (compareOp .IsNot) gIsN := by
  refine ⟨_, op_notN.or op_isnot_bl, fun Z H x y dx dy Qd Q' rx ry hg k oin => ?_⟩
  unfold gIsN at hg
  split at hg
  · rw [ry.non]
    refine .inl ⟨rfl, ?_⟩
    rw [is_non rx]
    exact k _ _ _ Same.rfl' oin (.bl _) hg
  · split at hg
    · rw [rx.bl, ry.bl]
      exact .inr ⟨_, _, rfl, rfl, k _ _ _ Same.rfl' oin (.bl _) hg⟩
    · exact hg.elim
  · exact hg.elim
/-! ### in -/
def inL (x : D) (ys : List D) : Bool := ys.any fun z => eqD z x
def gIn : G2 := fun x y Q => match y with
  | .lst ys => okD x 60 = true ∧ okD (.lst ys) 60 = true ∧ Q (.bl (inL x ys))
  | _ => False
def gNotIn : G2 := fun x y Q => match y with
  | .lst ys => okD x 60 = true ∧ okD (.lst ys) 60 = true ∧ Q (.bl (!inL x ys))
  | _ => False
theorem pdL_any (x : D) : ∀ ys : List D, ((pdL ys).any fun z => PyData.eqv z (pd x)) = inL x ys
  | [] => by rw [pdL]; rfl
  | y :: ys => by
    rw [pdL, List.any_cons, pdL_any x ys]
    rfl
theorem od_in (hK : X.K = S.G.K) (hu : X.A.units + 65 < cLine) : OpD S X (compareOp .In) gIn := by
  refine ⟨_, op_inD hu, fun Z H x y dx dy Qd Q' rx ry hg k oin => ?_⟩
  unfold gIn at hg
  split at hg
  · rename_i ys
    obtain ⟨h1, h2, h3⟩ := hg
    have e : pd (.lst ys) = .list (pdL ys) := by rw [pd]
    refine ⟨pd dx, pdL ys, ?_, ?_, okD_shaped h1, ?_, ?_⟩
    · rw [hK]; exact rx.dp h1
    · rw [hK, ← e]; exact ry.dp h2
    · rw [← e]; exact okD_shaped h2
    · rw [pdL_any]; exact k _ _ _ Same.rfl' oin (.bl _) h3
  · exact hg.elim
theorem od_notIn (hK : X.K = S.G.K) (hu : X.A.units + 65 < cLine) : OpD S X (compareOp .NotIn) gNotIn := by
  refine ⟨_, op_notInD hu, fun Z H x y dx dy Qd Q' rx ry hg k oin => ?_⟩
  unfold gNotIn at hg
  split at hg
  · rename_i ys
    obtain ⟨h1, h2, h3⟩ := hg
    have e : pd (.lst ys) = .list (pdL ys) := by rw [pd]
    refine ⟨pd dx, pdL ys, ?_, ?_, okD_shaped h1, ?_, ?_⟩
    · rw [hK]; exact rx.dp h1
    · rw [hK, ← e]; exact ry.dp h2
    · rw [← e]; exact okD_shaped h2
    · rw [pdL_any]; exact k _ _ _ Same.rfl' oin (.bl _) h3
  · exact hg.elim
end
end DV

set_option Elab.async false
set_option linter.all false
set_option maxRecDepth 100000
/-! DV4: subscripts, built-in functions, calls of the program's own defs. -/
namespace DV
open PySem PySem.Spec PyProof.Rows L2

section
variable {S : Ent} {X : Cx} {a b c e : Expr} {Ta Tb Tc : Tm} {pos : Pos}
/-! ### o[i] -/
def gIx : G2 := fun x y Q => match x, y with
  | .tup xs, .int i => ∃ d, atI xs i = some d ∧ Q d
  | .lst xs, .int i => ∃ d, atI xs i = some d ∧ Q d
  | .str z, .int i => z.length ≤ big ∧ ∃ c, atI z.cps.toList i = some c ∧ Q (.str ⟨#[c]⟩)
  | _, _ => False
theorem RepL.atI {G : Pg} {H : Hp} {hh : Option Addr} {vs : List V} {ds : List D} {i : Int} {d : D} (r : RepL G H hh vs ds) (h : L2.atI ds i = some d) : ∃ v, L2.atI vs i = some v ∧ Rep G H hh v d := by
  unfold L2.atI at h ⊢
  rw [r.length]
  cases q : ixN ds.length i with
  | none => rw [q] at h; cases h
  | some j =>
    rw [q] at h
    exact r.get h
theorem lift_ix (hK : X.K = S.G.K) : Lift2 S.G (rIx X.K) gIx := by
  intro Z H x y dx dy Qd Q' rx ry hg k oin
  unfold gIx at hg
  split at hg
  · obtain ⟨d, h1, h2⟩ := hg
    obtain ⟨p, vs, rfl, ep, rp⟩ := rx.tup
    rw [ry.int]
    rw [← hK] at ep
    obtain ⟨v, hv, rv⟩ := rp.atI h1
    exact .inr (.inl ⟨p, vs, _, v, rfl, rfl, ep, hv, k _ _ _ Same.rfl' oin rv h2⟩)
  · obtain ⟨d, h1, h2⟩ := hg
    obtain ⟨p, vs, rfl, ep, rp⟩ := rx.lst
    rw [ry.int]
    obtain ⟨v, hv, rv⟩ := rp.atI h1
    exact .inl ⟨p, vs, _, v, rfl, rfl, SqL.of ep, hv, k _ _ _ Same.rfl' oin rv h2⟩
  · obtain ⟨h0, c, h1, h2⟩ := hg
    rw [rx.str, ry.int]
    exact .inr (.inr ⟨_, _, c, rfl, rfl, big_line h0, h1, k _ _ _ Same.rfl' oin (.str _) h2⟩)
  · exact hg.elim
theorem dx_ix (hK : X.K = S.G.K) (ha : DB S X a Ta) (hb : DB S X b Tb) (hs : PlainIx b := by exact fun _ _ => rfl) : DE S X (.Subscript a b pos) (wOp gIx Ta Tb) := ⟨fun W tk => by
  obtain ⟨ta, pa, ra⟩ := ha.run W tk
  obtain ⟨tb, pb, rb⟩ := hb.run W tk
  exact ⟨_, pe_ix ix_seq pa pb hs, fun Z env σ H Q E Q' R hT k x => run2 (lift_ix hK) ra rb R hT k x⟩⟩
/-! ### o[i:j] -/
abbrev Tp := Env → (Option Int → Env → Prop) → Ex → Prop
structure DP (S : Ent) (X : Cx) (e : Option Expr) (T : Tp) : Prop where
  run : ∀ W, Takes X W → ∃ t, PO X e t ∧ ∀ Z env σ H Q E (Q' : Option Int → Hp → Prop), Rel S Z env σ H → T env Q E →
    (∀ Z' env' b H', Rel S Z' env' σ H' → Tr Z H Z' H' → Q b env' → Q' b H') → ExOk S Z H σ E W → t σ H Q'
def wNoP : Tp := fun env Q _ => Q none env
def wPart (T : Tm) : Tp := fun env Q E => T env (fun d env1 => match d with | .int i => Q (some i) env1 | _ => False) E
theorem dp_none : DP S X none wNoP := ⟨fun W tk => ⟨_, po_none, fun Z env σ H Q E Q' R hT k _ => k Z env none H R .refl hT⟩⟩
theorem dp_some (h : DB S X e Ta) : DP S X (some e) (wPart Ta) := ⟨fun W tk => by
  obtain ⟨t, p, q⟩ := h.run W tk
  refine ⟨_, po_some p, fun Z env σ H Q E Q' R hT k x => ?_⟩
  refine q Z env σ H _ E _ R hT (fun Z1 env1 v d H1 R1 t1 r1 h1 => ?_) x
  split at h1
  · exact ⟨_, r1.int, k Z1 env1 _ H1 R1 t1 h1⟩
  · exact h1.elim⟩
def cutD (xs : List D) (lo hi : Option Int) : List D := (xs.drop (HT.sIx xs.length 0 lo)).take (HT.sIx xs.length xs.length hi - HT.sIx xs.length 0 lo)
theorem RepL.cut {G : Pg} {H : Hp} {hh : Option Addr} {vs : List V} {ds : List D} (r : RepL G H hh vs ds) (lo hi : Option Int) : RepL G H hh (cutV vs lo hi) (cutD ds lo hi) := by
  unfold cutV cutD
  rw [r.length]
  exact (r.drop _).take _
def gSlc (x : D) (lo hi : Option Int) (Q : D → Prop) : Prop := match x with
  | .tup xs => Q (.tup (cutD xs lo hi))
  | .lst xs => Q (.lst (cutD xs lo hi))
  | .frz xs => Q (.lst (cutD xs lo hi))
  | _ => False
def wSlc (T : Tm) (Tl Th : Tp) : Tm := fun env Q E => T env (fun x env1 => Tl env1 (fun lo env2 => Th env2 (fun hi env3 => gSlc x lo hi fun d => Q d env3) E) E) E
theorem cutV_whole {α : Type} (xs : List V) (lo hi : Option Int) (h : HT.sIx xs.length 0 lo = 0 ∧ HT.sIx xs.length xs.length hi = xs.length) : cutV xs lo hi = xs := by
  unfold cutV
  rw [h.1, h.2]
  simp
theorem dx_slc {lo hi : Option Expr} {Tl Th : Tp} {p2 : Pos} (hK : X.K = S.G.K) (ha : DB S X a Ta) (hl : DP S X lo Tl) (hh : DP S X hi Th) : DE S X (.Subscript a (.Slice lo hi none p2) pos) (wSlc Ta Tl Th) := ⟨fun W tk => by
  obtain ⟨ta, pa, ra⟩ := ha.run W tk
  obtain ⟨tl, pl, rl⟩ := hl.run W tk
  obtain ⟨th, ph, rh⟩ := hh.run W tk
  refine ⟨_, pe_slice (sl_tupA.or sl_list) pa pl ph, fun Z env σ H Q E Q' R hT k x => ?_⟩
  refine ra Z env σ H _ E _ R hT (fun Z1 env1 v d H1 R1 t1 r1 h1 => ?_) x
  refine rl Z1 env1 σ H1 _ E _ R1 h1 (fun Z2 env2 lo H2 R2 t2 h2 => ?_) (x.on R1 t1)
  have t12 := Tr.trans R1 t1 t2
  refine rh Z2 env2 σ H2 _ E _ R2 h2 (fun Z3 env3 hi H3 R3 t3 h3 => ?_) (x.on R2 t12)
  have t13 := Tr.trans R2 t12 t3
  have r3 := (r1.on R1 t2).on R2 t3
  unfold gSlc at h3
  split at h3
  · rename_i xs
    obtain ⟨p, vs, rfl, ep, rp⟩ := r3.tup
    have ep' := ep
    rw [← hK] at ep
    refine .inl ⟨p, vs, rfl, ep, fun hw => ?_, fun _ q hq => ?_⟩
    · refine k Z3 env3 _ _ H3 R3 t13 ?_ h3
      have r0 : RS S.G Z3 H3 (.ref p) (.tup xs) := by
        rcases r3 with r | ⟨_, _, _, _, e, _⟩ | ⟨_, _, _, _, _, e, _⟩
        · exact r
        · cases e
        · cases e
      have e2 : cutD xs lo hi = xs := by
        unfold cutD
        rw [← rp.length, hw.1, hw.2, rp.length]
        simp
      rw [e2]
      exact r0
    · exact k Z3 env3 _ _ _ (R3.grow (same_upd hq)) (Tr.trans R3 t13 (.alloc (same_upd hq))) (new_tup R3.oin hq (rp.cut lo hi)) h3
  · obtain ⟨p, vs, rfl, ep, rp⟩ := r3.lst
    exact .inr ⟨p, vs, rfl, SqL.of ep, fun q hq => k Z3 env3 _ _ _ (R3.grow (same_upd hq)) (Tr.trans R3 t13 (.alloc (same_upd hq))) (new_lst R3.oin hq (rp.cut lo hi)) h3⟩
  · rcases r3 with r | ⟨_, _, _, _, e, _⟩ | ⟨_, _, _, _, _, e, _⟩
    · cases r with
      | frz ep rp =>
        refine .inr ⟨_, _, rfl, ?_, fun q hq => k Z3 env3 _ _ _ (R3.grow (same_upd hq)) (Tr.trans R3 t13 (.alloc (same_upd hq))) (new_lst R3.oin hq (rp.cut lo hi)) h3⟩
        rw [hK]
        exact Same.seq (fun b o e => (vis_some e).2) ep
    · cases e
    · cases e
  · exact h3.elim⟩
/-! ### built-in functions -/
abbrev GL := List D → (D → Prop) → Prop
def LiftC (G : Pg) (r : List V → Hp → VK → Prop) (g : GL) : Prop :=
  ∀ Z H vs ds (Qd : D → Prop) Q', vs.length = ds.length → (∀ (i : Nat) v d, vs[i]? = some v → ds[i]? = some d → RB G Z H v d) → g ds Qd →
    (∀ v d H', Same H H' → RS G Z H' v d → Qd d → Q' v H') → (∀ a ∈ Z.O, H a ≠ none) → r vs H Q'
def CallD (S : Ent) (X : Cx) (f : Value) (g : GL) : Prop := ∃ r, CallR X f r ∧ LiftC S.G r g
def wCB (g : GL) (T : TmL) : Tm := fun env Q E => T env (fun ds env1 => g ds fun d => Q d env1) E
variable {es : List Expr} {T : TmL} {x : Str} {p : Pos} {bid : String} {g : GL}
theorem runC {r : List V → Hp → VK → Prop} {ta : TA} (hl : LiftC S.G r g) {W : WX}
    (ra : ∀ Z env σ H Q E (Q' : List V → Hp → Prop), Rel S Z env σ H → T env Q E →
      (∀ Z' env' vs ds H', Rel S Z' env' σ H' → Tr Z H Z' H' → vs.length = ds.length → (∀ (i : Nat) v d, vs[i]? = some v → ds[i]? = some d → RB S.G Z' H' v d) → Q ds env' → Q' vs H') → ExOk S Z H σ E W → ta σ H Q')
    {Z : Zs} {env : Env} {σ : L2.St} {H : Hp} {Q : D → Env → Prop} {E : Ex} {Q' : VK} (R : Rel S Z env σ H) (hT : wCB g T env Q E)
    (k : ∀ Z' env' v d H', Rel S Z' env' σ H' → Tr Z H Z' H' → RS S.G Z' H' v d → Q d env' → Q' v H') (x : ExOk S Z H σ E W) : tCB r ta σ H Q' := by
  refine ra Z env σ H _ E _ R hT (fun Z1 env1 vs ds H1 R1 t1 hl1 r1 h1 => ?_) x
  exact hl Z1 H1 vs ds _ _ hl1 r1 h1 (fun v d H2 sm r2 q => k Z1 env1 v d H2 (R1.grow sm) (Tr.trans R1 t1 (.alloc sm)) r2 q) R1.oin
theorem dx_cb (hc : CallD S X (.builtin bid) g) (hm : X.mg x = none) (hv : bootBuiltins x = some (.builtin bid)) (ha : DA S RB X (e :: es) T) (hg : Gl X x := by rfl) (hn : x ≠ "__name__" := by decide) (hdb : (x == ("__debug__" : Str)) = false := by decide)
    (he : starEach (e :: es) X.env = (false, eval e X.env) :: starEach es X.env := by rfl) (hpl : (backTo pos (starEach es X.env)).any (·.1) = false := by rfl) : DE S X (.Call (.Name x p) (e :: es) [] pos) (wCB g T) := ⟨fun W tk => by
  obtain ⟨r, c, hl⟩ := hc
  obtain ⟨ta, pa, ra⟩ := ha.run W tk
  exact ⟨_, pe_callB c hg hm hv pa hn hdb he hpl, fun Z env σ H Q E Q' R hT k x => runC hl ra R hT k x⟩⟩
theorem dx_cty (hc : CallD S X (.type bid) g) (hm : X.mg x = none) (hv : bootBuiltins x = some (.type bid)) (ha : DA S RB X (e :: es) T) (hg : Gl X x := by rfl) (hn : x ≠ "__name__" := by decide) (hdb : (x == ("__debug__" : Str)) = false := by decide)
    (he : starEach (e :: es) X.env = (false, eval e X.env) :: starEach es X.env := by rfl) (hpl : (backTo pos (starEach es X.env)).any (·.1) = false := by rfl) : DE S X (.Call (.Name x p) (e :: es) [] pos) (wCB g T) := ⟨fun W tk => by
  obtain ⟨r, c, hl⟩ := hc
  obtain ⟨ta, pa, ra⟩ := ha.run W tk
  exact ⟨_, pe_callTy c hg hm hv pa hn hdb he hpl, fun Z env σ H Q E Q' R hT k x => runC hl ra R hT k x⟩⟩
theorem one_of {G : Pg} {Z : Zs} {H : Hp} {vs : List V} {d : D} (hl : vs.length = [d].length) (h : ∀ (i : Nat) v d', vs[i]? = some v → [d][i]? = some d' → RB G Z H v d') : ∃ v, vs = [v] ∧ RB G Z H v d := by
  match vs, hl with
  | [v], _ => exact ⟨v, rfl, h 0 v d rfl rfl⟩
theorem two_of {G : Pg} {Z : Zs} {H : Hp} {vs : List V} {d d2 : D} (hl : vs.length = [d, d2].length) (h : ∀ (i : Nat) v d', vs[i]? = some v → [d, d2][i]? = some d' → RB G Z H v d') : ∃ v v2, vs = [v, v2] ∧ RB G Z H v d ∧ RB G Z H v2 d2 := by
  match vs, hl with
  | [v, v2], _ => exact ⟨v, v2, rfl, h 0 v d rfl rfl, h 1 v2 d2 rfl rfl⟩
def gLen : GL := fun ds Q => match ds with
  | [.tup xs] => Q (.int xs.length)
  | [.lst xs] => Q (.int xs.length)
  | [.str z] => z.length ≤ big ∧ Q (.int z.length)
  | _ => False
theorem cd_len (hK : X.K = S.G.K) : CallD S X (.builtin "len") gLen := by
  refine ⟨_, call_len, fun Z H vs ds Qd Q' hl hr hg k oin => ?_⟩
  unfold gLen at hg
  split at hg
  · obtain ⟨v, rfl, r⟩ := one_of hl hr
    obtain ⟨p, ws, rfl, ep, rp⟩ := r.tup
    rw [← hK] at ep
    refine ⟨_, ws.length, rfl, .inr ⟨ws, ep, rfl⟩, ?_⟩
    rw [rp.length]
    exact k _ _ _ Same.rfl' (.int _) hg
  · obtain ⟨v, rfl, r⟩ := one_of hl hr
    obtain ⟨p, ws, rfl, ep, rp⟩ := r.lst
    refine ⟨_, ws.length, rfl, .inl ⟨ws, SqL.of ep, rfl⟩, ?_⟩
    rw [rp.length]
    exact k _ _ _ Same.rfl' (.int _) hg
  · obtain ⟨v, rfl, r⟩ := one_of hl hr
    rw [r.str]
    exact ⟨_, _, rfl, ⟨big_line hg.1, rfl⟩, k _ _ _ Same.rfl' (.int _) hg.2⟩
  · exact hg.elim
def gAbs : GL := fun ds Q => match ds with
  | [.int i] => Q (.int (if i < 0 then -i else i))
  | _ => False
theorem cd_abs : CallD S X (.builtin "abs") gAbs := by
  refine ⟨_, call_abs, fun Z H vs ds Qd Q' hl hr hg k oin => ?_⟩
  unfold gAbs at hg
  split at hg
  · obtain ⟨v, rfl, r⟩ := one_of hl hr
    rw [r.int]
    exact ⟨_, rfl, k _ _ _ Same.rfl' (.int _) hg⟩
  · exact hg.elim
def gInt : GL := fun ds Q => match ds with
  | [.int i] => Q (.int i)
  | [.bl b] => Q (.int (if b then 1 else 0))
  | _ => False
theorem cd_int : CallD S X (.type "int") gInt := by
  refine ⟨_, call_int1, fun Z H vs ds Qd Q' hl hr hg k oin => ?_⟩
  unfold gInt at hg
  split at hg
  · obtain ⟨v, rfl, r⟩ := one_of hl hr
    rw [r.int]
    exact .inl ⟨_, rfl, k _ _ _ Same.rfl' (.int _) hg⟩
  · obtain ⟨v, rfl, r⟩ := one_of hl hr
    rw [r.bl]
    exact .inr ⟨_, rfl, k _ _ _ Same.rfl' (.int _) hg⟩
  · exact hg.elim
def gMin2 : GL := fun ds Q => match ds with
  | [.int i, .int j] => Q (.int (if j < i then j else i))
  | _ => False
theorem cd_min2 (hc : X.calm = true) : CallD S X (.builtin "min") gMin2 := by
  refine ⟨_, call_min2 hc, fun Z H vs ds Qd Q' hl hr hg k oin => ?_⟩
  unfold gMin2 at hg
  split at hg
  · obtain ⟨v, v2, rfl, r, r2⟩ := two_of hl hr
    rw [r.int, r2.int]
    exact ⟨_, _, rfl, k _ _ _ Same.rfl' (.int _) hg⟩
  · exact hg.elim
def gMax2 : GL := fun ds Q => match ds with
  | [.int i, .int j] => Q (.int (if j > i then j else i))
  | _ => False
theorem cd_max2 (hc : X.calm = true) : CallD S X (.builtin "max") gMax2 := by
  refine ⟨_, call_max2 hc, fun Z H vs ds Qd Q' hl hr hg k oin => ?_⟩
  unfold gMax2 at hg
  split at hg
  · obtain ⟨v, v2, rfl, r, r2⟩ := two_of hl hr
    rw [r.int, r2.int]
    exact ⟨_, _, rfl, k _ _ _ Same.rfl' (.int _) hg⟩
  · exact hg.elim
/-- all of a list of flags -/
def toBs : List D → Option (List Bool)
  | [] => some []
  | .bl b :: r => (toBs r).map (b :: ·)
  | _ :: _ => none
theorem toBs_eq : ∀ {xs : List D} {bs : List Bool}, toBs xs = some bs → xs = bs.map D.bl
  | [], bs, h => by cases h; rfl
  | .bl b :: r, bs, h => by
    rw [toBs] at h
    cases q : toBs r with
    | none => rw [q] at h; cases h
    | some cs =>
      rw [q] at h
      cases h
      rw [toBs_eq q]; rfl
  | .non :: _, _, h => by cases h
  | .int _ :: _, _, h => by cases h
  | .str _ :: _, _, h => by cases h
  | .tup _ :: _, _, h => by cases h
  | .lst _ :: _, _, h => by cases h
  | .dct _ :: _, _, h => by cases h
  | .obj _ _ :: _, _, h => by cases h
  | .frz _ :: _, _, h => by cases h
  | .hand :: _, _, h => by cases h
theorem toBs_map : ∀ bs : List Bool, toBs (bs.map D.bl) = some bs
  | [] => rfl
  | b :: r => by rw [List.map_cons, toBs, toBs_map r]; rfl
def gAll : GL := fun ds Q => match ds with
  | [.lst xs] => ∃ bs, toBs xs = some bs ∧ Q (.bl (bs.all id))
  | _ => False
theorem cd_all (hc : X.calm = true) : CallD S X (.builtin "all") gAll := by
  refine ⟨_, cr_all hc, fun Z H vs ds Qd Q' hl hr hg k oin => ?_⟩
  unfold gAll at hg
  split at hg
  · obtain ⟨bs, h1, h2⟩ := hg
    obtain ⟨v, rfl, r⟩ := one_of hl hr
    obtain ⟨p, ws, rfl, ep, rp⟩ := r.lst
    rw [toBs_eq h1] at rp
    rw [rp.bls] at ep
    exact ⟨p, bs, rfl, SqL.of ep, k _ _ _ Same.rfl' (.bl _) h2⟩
  · exact hg.elim
def gAny : GL := fun ds Q => match ds with
  | [.lst xs] => ∃ bs, toBs xs = some bs ∧ Q (.bl (bs.any id))
  | _ => False
theorem cd_any (hc : X.calm = true) : CallD S X (.builtin "any") gAny := by
  refine ⟨_, cr_any hc, fun Z H vs ds Qd Q' hl hr hg k oin => ?_⟩
  unfold gAny at hg
  split at hg
  · obtain ⟨bs, h1, h2⟩ := hg
    obtain ⟨v, rfl, r⟩ := one_of hl hr
    obtain ⟨p, ws, rfl, ep, rp⟩ := r.lst
    rw [toBs_eq h1] at rp
    rw [rp.bls] at ep
    exact ⟨p, bs, rfl, SqL.of ep, k _ _ _ Same.rfl' (.bl _) h2⟩
  · exact hg.elim
def toIs : List D → Option (List Int)
  | [] => some []
  | .int b :: r => (toIs r).map (b :: ·)
  | _ :: _ => none
theorem toIs_eq : ∀ {xs : List D} {bs : List Int}, toIs xs = some bs → xs = bs.map D.int
  | [], bs, h => by cases h; rfl
  | .int b :: r, bs, h => by
    rw [toIs] at h
    cases q : toIs r with
    | none => rw [q] at h; cases h
    | some cs =>
      rw [q] at h
      cases h
      rw [toIs_eq q]; rfl
  | .non :: _, _, h => by cases h
  | .bl _ :: _, _, h => by cases h
  | .str _ :: _, _, h => by cases h
  | .tup _ :: _, _, h => by cases h
  | .lst _ :: _, _, h => by cases h
  | .dct _ :: _, _, h => by cases h
  | .obj _ _ :: _, _, h => by cases h
  | .frz _ :: _, _, h => by cases h
  | .hand :: _, _, h => by cases h
theorem toIs_map : ∀ bs : List Int, toIs (bs.map D.int) = some bs
  | [] => rfl
  | b :: r => by rw [List.map_cons, toIs, toIs_map r]; rfl
def gSum : GL := fun ds Q => match ds with
  | [.lst xs] => ∃ ns, toIs xs = some ns ∧ Q (.int ns.sum)
  | _ => False
theorem cd_sum (hc : X.calm = true) : CallD S X (.builtin "sum") gSum := by
  refine ⟨_, cr_sum hc, fun Z H vs ds Qd Q' hl hr hg k oin => ?_⟩
  unfold gSum at hg
  split at hg
  · obtain ⟨bs, h1, h2⟩ := hg
    obtain ⟨v, rfl, r⟩ := one_of hl hr
    obtain ⟨p, ws, rfl, ep, rp⟩ := r.lst
    rw [toIs_eq h1] at rp
    rw [rp.ints] at ep
    exact ⟨p, bs, rfl, SqL.of ep, k _ _ _ Same.rfl' (.int _) h2⟩
  · exact hg.elim
def gTuple : GL := fun ds Q => match ds with
  | [.lst xs] => Q (.tup xs)
  | [.tup xs] => Q (.tup xs)
  | _ => False
theorem cd_tuple (hK : X.K = S.G.K) : CallD S X (.type "tuple") gTuple := by
  refine ⟨_, call_tuple_of, fun Z H vs ds Qd Q' hl hr hg k oin => ?_⟩
  unfold gTuple at hg
  split at hg
  · obtain ⟨v, rfl, r⟩ := one_of hl hr
    obtain ⟨p, ws, rfl, ep, rp⟩ := r.lst
    exact ⟨p, ws, rfl, .inl ⟨SqL.of ep, fun q hq => k _ _ _ (same_upd hq) (new_tup oin hq rp) hg⟩⟩
  · obtain ⟨v, rfl, r⟩ := one_of hl hr
    obtain ⟨p, ws, rfl, ep, rp⟩ := r.tup
    rw [← hK] at ep
    refine ⟨p, ws, rfl, .inr ⟨ep, k _ _ _ Same.rfl' ?_ hg⟩⟩
    rcases r with r | ⟨_, _, _, _, e, _⟩ | ⟨_, _, _, _, _, e, _⟩
    · exact r
    · cases e
    · cases e
  · exact hg.elim
/-! ### isinstance of built-in classes -/
inductive Ty where
  | int | bool | str | tuple | list | dict
def Ty.nm : Ty → String
  | .int => "int" | .bool => "bool" | .str => "str" | .tuple => "tuple" | .list => "list" | .dict => "dict"
def D.isTy : D → Ty → Bool
  | .int _, .int => true
  | .bl _, .int => true
  | .bl _, .bool => true
  | .str _, .str => true
  | .tup _, .tuple => true
  | .lst _, .list => true
  | .dct _, .dict => true
  | _, _ => false
/-- objects are none of these -/
structure ObjCls (K : PySem.W.Frag) (C : Addr) : Prop where
  cl : Cls K C
  ha : PySem.W.findIn K (.ref C) "__class__" = some (some (.builtin "object.__class__"))
  hn : PySem.W.specialIn K (.builtin "object.__class__") "__get__" = some (some (.builtin "getset_descriptor.__get__"))
  ht : PySem.W.takesIn K (.builtin "object.__class__") = some true
  hm : PySem.W.mroIn K C (.type "object") = some true
  no : ∀ t : Ty, PySem.W.kitOne K (.ref C) (.type t.nm) = some false
def D.isHand : D → Bool
  | .hand => true
  | .frz _ => true
  | _ => false
def wIsT (t : Ty) (T : Tm) : Tm := fun env Q E => T env (fun d env1 => d.isHand = false ∧ Q (.bl (d.isTy t)) env1) E
theorem kit_nm : ∀ t : Ty, kitB "NoneType" t.nm = some false ∧ kitB "bool" t.nm = some (D.isTy (.bl true) t) ∧ kitB "int" t.nm = some (D.isTy (.int 0) t) ∧ kitB "str" t.nm = some (D.isTy (.str ⟨#[]⟩) t) ∧
    kitB "tuple" t.nm = some (D.isTy (.tup []) t) ∧ kitB "list" t.nm = some (D.isTy (.lst []) t) ∧ kitB "dict" t.nm = some (D.isTy (.dct []) t) := by
  intro t
  cases t <;> refine ⟨?_, ?_, ?_, ?_, ?_, ?_, ?_⟩ <;> decide +kernel
theorem kit_of_rep {G : Pg} {Z : Zs} {H : Hp} {v : V} {d : D} (hO : ∀ c C, G.CT c = some C → ObjCls G.K C) (r : RB G Z H v d) (nh : d.isHand = false) : ∃ u, TyX G.K H v u ∧ ∀ t : Ty, PySem.W.kitOne G.K u (.type t.nm) = some (d.isTy t) := by
  rcases r with r | ⟨a, vs, xs, rfl, rfl, n, e, r⟩ | ⟨a, vs, ds, kvs, rfl, rfl, n, r, ⟨hk, e, _⟩ | ⟨hk, e, _⟩⟩
  · cases r with
    | non => exact ⟨_, .base .non, fun t => kit_ty (by rw [(kit_nm t).1]; cases t <;> rfl)⟩
    | bl b => exact ⟨_, .base (.bl b), fun t => kit_ty (by rw [(kit_nm t).2.1]; cases t <;> rfl)⟩
    | int i => exact ⟨_, .base (.int i), fun t => kit_ty (by rw [(kit_nm t).2.2.1]; cases t <;> rfl)⟩
    | str s => exact ⟨_, .base (.str s), fun t => kit_ty (by rw [(kit_nm t).2.2.2.1]; cases t <;> rfl)⟩
    | tup e r =>
      have kk : ∀ xs, ∀ t : Ty, PySem.W.kitOne G.K (.type "tuple") (.type t.nm) = some ((D.tup xs).isTy t) := fun xs t => kit_ty (by rw [(kit_nm t).2.2.2.2.1]; cases t <;> rfl)
      rcases e with (e | ⟨o, e⟩) | ⟨o, its, n, e, ec, _⟩
      · exact ⟨_, .base (.tup (vis_some e).2), kk _⟩
      · exact ⟨_, .fTuple (vis_some e).2, kk _⟩
      · exact ⟨_, .kTuple e ec, kk _⟩
    | lst e r => exact ⟨_, .base (.lst (vis_some e).2), fun t => kit_ty (by rw [(kit_nm t).2.2.2.2.2.1]; cases t <;> rfl)⟩
    | dK e _ _ _ => exact ⟨_, .base (.dK (vis_some e).2), fun t => kit_ty (by rw [(kit_nm t).2.2.2.2.2.2]; cases t <;> rfl)⟩
    | dT e _ _ _ => exact ⟨_, .base (.dT (vis_some e).2), fun t => kit_ty (by rw [(kit_nm t).2.2.2.2.2.2]; cases t <;> rfl)⟩
    | obj ec e _ _ _ =>
      have o := hO _ _ ec
      exact ⟨_, .base (.ins (vis_some e).2 o.cl o.ha o.hn o.ht o.hm), fun t => by rw [o.no]; cases t <;> rfl⟩
    | frz _ _ => cases nh
    | hand _ => cases nh
  · exact ⟨_, .base (.lst e), fun t => kit_ty (by rw [(kit_nm t).2.2.2.2.2.1]; cases t <;> rfl)⟩
  · exact ⟨_, .base (.dK e), fun t => kit_ty (by rw [(kit_nm t).2.2.2.2.2.2]; cases t <;> rfl)⟩
  · exact ⟨_, .base (.dT e), fun t => kit_ty (by rw [(kit_nm t).2.2.2.2.2.2]; cases t <;> rfl)⟩
theorem dx_isT (t : Ty) {tn : Str} {p2 : Pos} (hK : X.K = S.G.K) (hO : ∀ c C, S.G.CT c = some C → ObjCls S.G.K C) (hm : X.mg "isinstance" = none) (hv : bootBuiltins "isinstance" = some (.builtin "isinstance")) (ha : DB S X a Ta)
    (hm2 : X.mg tn = none) (hv2 : bootBuiltins tn = some (.type t.nm)) (hg : Gl X "isinstance" := by rfl) (hg2 : Gl X tn := by rfl) (hn2 : tn ≠ "__name__" := by decide) (hd2 : (tn == ("__debug__" : Str)) = false := by decide)
    (he : starEach (a :: [.Name tn p2]) X.env = (false, eval a X.env) :: starEach [.Name tn p2] X.env := by rfl) (hpl : (backTo pos (starEach [.Name tn p2] X.env)).any (·.1) = false := by rfl) : DE S X (.Call (.Name "isinstance" p) [a, .Name tn p2] [] pos) (wIsT t Ta) := ⟨fun W tk => by
  obtain ⟨ta, pa, ra⟩ := ha.run W tk
  refine ⟨_, pe_callB call_isi hg hm hv (pa_cons pa (pa_cons (pe_bltn (v := .ty t.nm) hg2 hm2 hv2 rfl hn2 hd2) pa_nil) he) (by decide) (by decide) he hpl, fun Z env σ H Q E Q' R hT k x => ?_⟩
  refine ra Z env σ H _ E _ R hT (fun Z1 env1 v d H1 R1 t1 r1 h1 => ?_) x
  obtain ⟨u, ty, kk⟩ := kit_of_rep hO r1 h1.1
  have kk := kk t
  rw [← hK] at ty kk
  exact ⟨v, .ty t.nm, u, .type t.nm, _, rfl, .ty _, ty, kk, k Z1 env1 _ _ H1 R1 t1 (.bl _) h1.2⟩⟩
/-! ### the program's own defs -/
abbrev Fn := List D → (D → Prop) → (Er → Prop) → Prop
/-- a def's promise over plain data: T is told of the arguments' data -/
def spD (G : Pg) (n : Nat) (T : Fn) : Sp := fun vs H Q E => ∃ (Z : Zs) (ds : List D) (Qd : D → Prop) (Ed : Er → Prop), vs.length = n ∧ ds.length = n ∧ (∀ a ∈ Z.O, H a ≠ none) ∧ (∀ a, Z.h = some a → HandOk Z.O H a) ∧ RepL G (vis Z.O H) Z.h vs ds ∧ LamX.Tabs G.T H ∧ T ds Qd Ed ∧
  (∀ d v H', (∀ b o, H b = some o → Z.h ≠ some b → Ex1 H' b o) → (∀ a, Z.h = some a → HandOk Z.O H' a) → LamX.Tabs G.T H' → RS G Z H' v d → Qd d → Q v H') ∧
  (∀ er cls dd H', (∀ b o, H b = some o → Z.h ≠ some b → Ex1 H' b o) → (∀ a, Z.h = some a → HandOk Z.O H' a) → LamX.Tabs G.T H' → ErrOk G Z H' cls dd er → Ed er → E cls dd H')
/-- a def that may be called by the name x -/
structure Cal (P : Program) (w : World) (G : Pg) (mg : Str → Option Value) (base : Heap) (x : Str) (k n : Nat) (T : Fn) : Prop where
  ex : ∃ f fd ps, mg x = some (.ref f) ∧ PySem.W.keepIn G.K (.ref f) = true ∧ Binds G.K fd ps [] ∧ FnOk P w G.K mg base (L2.CX P w) k f fd ps (spD G n T)
theorem Cal.mono {P : Program} {w : World} {G : Pg} {mg : Str → Option Value} {base : Heap} {x : Str} {j k n : Nat} {T : Fn} (h : Cal P w G mg base x j n T) (l : j ≤ k) : Cal P w G mg base x k n T := by
  obtain ⟨f, fd, ps, h1, h2, h3, h4⟩ := h.ex
  exact ⟨f, fd, ps, h1, h2, h3, h4.mono l⟩
def wCall (n : Nat) (F : Fn) (T : TmL) : Tm := fun env Q E => T env (fun ds env1 => ds.length = n ∧ F ds (fun d => Q d env1) (fun er => E er env1)) E
theorem call_end {F : Fn} {n : Nat} {W : WX} {Z Z1 : Zs} {env1 : Env} {σ : L2.St} {H H1 : Hp} {Q : D → Env → Prop} {E : Ex} {Q' : VK} {vs : List V} {ds : List D} (R1 : Rel S Z1 env1 σ H1) (t1 : Tr Z H Z1 H1) (v1 : Vle Z H Z1 H1)
    (hl : vs.length = ds.length) (r1 : ∀ (i : Nat) v d, vs[i]? = some v → ds[i]? = some d → RS S.G Z1 H1 v d) (hn : ds.length = n) (h1 : F ds (fun d => Q d env1) (fun er => E er env1))
    (k : ∀ Z' env' v d H', Rel S Z' env' σ H' → Tr Z H Z' H' → RS S.G Z' H' v d → Q d env' → Q' v H') (x : ExOk S Z H σ E W) :
    spD S.G n F vs H1 Q' (WE W σ) := by
  refine ⟨Z1, ds, _, _, hl.trans hn, hn, R1.oin, R1.hnd, .of_all hl r1, R1.tabs, h1, fun d v H' kp hd tt r q => ?_, fun er cls dd H' kp hd tt r q => ?_⟩
  · exact k Z1 env1 v d H' (R1.step kp hd tt) (Tr.trans R1 t1 ⟨kp, fun _ h => .inl h, fun _ h => h, fun _ h => .inl h, rfl⟩) r q
  · have t : Tr Z1 H1 Z1 H' := ⟨kp, fun _ h => .inl h, fun _ h => h, fun _ h => .inl h, rfl⟩
    exact x Z1 env1 cls dd er H' (R1.step kp hd tt) (Tr.trans R1 t1 t) r q
theorem dx_call {n k : Nat} {F : Fn} (C : Cal X.prog X.w S.G X.mg X.base x k n F) (hK : X.K = S.G.K) (hr : Room k X.A) (ha : DA S RS X (e :: es) T) (hg : Gl X x := by rfl) (hdb : (x == ("__debug__" : Str)) = false := by decide)
    (he : starEach (e :: es) X.env = (false, eval e X.env) :: starEach es X.env := by rfl) (hpl : (backTo pos (starEach es X.env)).any (·.1) = false := by rfl) : DE S X (.Call (.Name x p) (e :: es) [] pos) (wCall n F T) := ⟨fun W tk => by
  obtain ⟨ta, pa, ra⟩ := ha.run W tk
  obtain ⟨f, fd, ps, h1, h2, h3, h4⟩ := C.ex
  rw [← hK] at h2 h3
  have h4' : FnOk X.prog X.w X.K X.mg X.base (L2.CX X.prog X.w) k f fd ps (spD S.G n F) := by rw [hK]; exact h4
  refine ⟨_, pe_callS h4' hr hg h1 h2 h3 (fun σ => passAt tk σ) pa hdb he hpl, fun Z env σ H Q E Q' R hT k x => ?_⟩
  refine ra Z env σ H _ E _ R hT (fun Z1 env1 vs ds H1 R1 t1 hl r1 hh => ?_) x
  exact call_end R1 t1 (R.vle t1) hl r1 hh.1 hh.2 k x⟩
end
end DV

set_option Elab.async false
set_option linter.all false
set_option maxRecDepth 100000
/-! DV5: what is walked, targets, list comprehensions. -/
namespace DV
open PySem PySem.Spec PyProof.Rows L2

/-! ### the canonical readings: one for all contexts -/
def semE (S : Ent) (Rr : RT) (T : Tm) (W : WX) : TE := fun σ H Q' => ∃ Z env Q E, Rel S Z env σ H ∧ T env Q E ∧
  (∀ Z' env' v d H', Rel S Z' env' σ H' → Tr Z H Z' H' → Rr S.G Z' H' v d → Q d env' → Q' v H') ∧ ExOk S Z H σ E W
def semT (S : Ent) (T : Tt) (W : WX) : TT := fun σ H Q' => ∃ Z env Q E, Rel S Z env σ H ∧ T env Q E ∧
  (∀ Z' env' b H', Rel S Z' env' σ H' → Tr Z H Z' H' → Q b env' → Q' b H') ∧ ExOk S Z H σ E W
theorem DX.sem {S : Ent} {Rr : RT} {X : Cx} {e : Expr} {T : Tm} (h : DX S Rr X e T) {W : WX} (tk : Takes X W) : PE X e (semE S Rr T W) := by
  obtain ⟨t, p, q⟩ := h.run W tk
  exact ⟨fun pins s σ H Q I hh => by
    obtain ⟨Z, env, Qd, E, R, hT, k, x⟩ := hh
    exact p.run pins s σ H Q I (q Z env σ H Qd E Q R hT k x)⟩
theorem DT.sem {S : Ent} {X : Cx} {e : Expr} {T : Tt} (h : DT S X e T) {W : WX} (tk : Takes X W) : PT X e (semT S T W) := by
  obtain ⟨t, p, q⟩ := h.run W tk
  exact ⟨fun pins s σ H Q I hh => by
    obtain ⟨Z, env, Qd, E, R, hT, k, x⟩ := hh
    exact p.run pins s σ H Q I (q Z env σ H Qd E Q R hT k x)⟩

/-! ### what is walked -/
abbrev Ti := Env → (List D → Env → Prop) → Ex → Prop
/-- while P holds of the hidden and the heap the iterator gives the items -/
structure Yields (G : Pg) (P : Zs → Hp → Prop) (J : It) (items : List D) : Prop where
  go : ∀ Z H i, P Z H → i < items.length → J.go i H
  stop : ∀ Z H, P Z H → J.stop items.length H
  yld : ∀ Z H i x H', P Z H → (∀ a ∈ Z.O, H a ≠ none) → i < items.length → J.yld i H x H' → Same H H' ∧ ∀ d, items[i]? = some d → RS G Z H' x d
theorem Yields.imp {G : Pg} {P P' : Zs → Hp → Prop} {J : It} {items : List D} (y : Yields G P J items) (h : ∀ Z H, P' Z H → P Z H) : Yields G P' J items :=
  ⟨fun Z H i p hi => y.go Z H i (h Z H p) hi, fun Z H p => y.stop Z H (h Z H p), fun Z H i x H' p => y.yld Z H i x H' (h Z H p)⟩
abbrev PP := Zs → Hp → Zs → Hp → Prop
/-- a way to look at what is walked: stored values through statements, own lists through expressions alone -/
structure Md (Rr : RT) (P : PP) : Prop where
  rb : ∀ {G Z H v d}, Rr G Z H v d → RB G Z H v d
  lst : ∀ {S : Ent} {Z env σ H v xs}, Rel S Z env σ H → Rr S.G Z H v (.lst xs) → ∃ a vs, v = .ref a ∧ ∀ Z2 H2, P Z H Z2 H2 → SqL S.G.K H2 a vs ∧ RepL S.G (vis Z2.O H2) Z2.h vs xs
  tup : ∀ {S : Ent} {Z env σ H v xs}, Rel S Z env σ H → Rr S.G Z H v (.tup xs) → ∃ a vs, v = .ref a ∧ ∀ Z2 H2, P Z H Z2 H2 → SqT S.G.K H2 a vs ∧ RepL S.G (vis Z2.O H2) Z2.h vs xs
  refl : ∀ Z H, P Z H Z H
theorem mdS : Md RS Vle where
  rb h := .inl h
  lst R h := by
    cases h with
    | lst e r => exact ⟨_, _, rfl, fun Z2 H2 p => ⟨SqL.of (vis_some (p.same _ _ e)).2, p.repL r⟩⟩
  tup R h := by
    cases h with
    | tup e r => exact ⟨_, _, rfl, fun Z2 H2 p => ⟨sqT_vis (sqT_same p.same e), p.repL r⟩⟩
  refl _ _ := Vle.refl
/-- as Tr, whatever is kept apart -/
structure Mv (Z : Zs) (H : Hp) (Z' : Zs) (H' : Hp) : Prop where
  keep : ∀ b o, H b = some o → Z.h ≠ some b → Ex1 H' b o
  osub : ∀ a ∈ Z'.O, a ∈ Z.O ∨ H a = none
  hh : ∀ a, Z.h = some a → Z'.h = some a
theorem Mv.tr {Z Z' : Zs} {H H' : Hp} (m : Mv Z H Z' H') (hz : ∀ x, Z'.h = some x → Z.h = some x ∨ H x = none) : Tr ⟨Z.O, Z.h, Z'.B⟩ H Z' H' := ⟨m.keep, m.osub, m.hh, hz, rfl⟩
theorem Mv.vle {S : Ent} {Z Z' : Zs} {H H' : Hp} {env : Env} {σ : L2.St} (m : Mv Z H Z' H') (R : Rel S Z env σ H) : Vle Z H Z' H' := by
  refine ⟨fun b o e => ?_, m.hh⟩
  obtain ⟨h1, h2⟩ := vis_some e
  have h3 : b ∉ Z'.O := fun hb => by
    rcases m.osub b hb with z | z
    · exact h1 z
    · rw [h2] at z; cases z
  have n := vis_nt e
  exact vis_out h3 ((m.keep b o h2 fun z => h1 (R.hin b z)).get n) n
theorem mdB : Md RB Mv where
  rb h := h
  lst R h := by
    rcases h with h | ⟨a, vs, ys, rfl, e, n, h, r⟩ | ⟨a, vs, ds, kvs, rfl, e, _⟩
    · obtain ⟨a, vs, e, q⟩ := mdS.lst R h
      exact ⟨a, vs, e, fun Z2 H2 p => q Z2 H2 (p.vle R)⟩
    · cases e
      exact ⟨a, vs, rfl, fun Z2 H2 p => ⟨SqL.of (p.keep _ _ h n).lst, (p.vle R).repL r⟩⟩
    · cases e
  tup R h := by
    rcases h with h | ⟨a, vs, ys, rfl, e, n, h, r⟩ | ⟨a, vs, ds, kvs, rfl, e, _⟩
    · obtain ⟨a, vs, e, q⟩ := mdS.tup R h
      exact ⟨a, vs, e, fun Z2 H2 p => q Z2 H2 (p.vle R)⟩
    · cases e
    · cases e
  refl _ _ := ⟨fun _ _ e _ => .of e, fun _ h => .inl h, fun _ h => h⟩
structure DI (S : Ent) (P : PP) (X : Cx) (tg iter : Expr) (T : Ti) : Prop where
  run : ∀ W, Takes X W → ∃ wi, PI X tg iter wi ∧ ∀ Z env σ H Q E (R' : It → Hp → Prop), Rel S Z env σ H → T env Q E →
    (∀ Z' env' J items H', Rel S Z' env' σ H' → Tr Z H Z' H' → Yields S.G (P Z' H') J items → Q items env' → R' J H') → ExOk S Z H σ E W → wi σ H R'
section
variable {S : Ent} {X : Cx} {P : PP} {Rr : RT} {tg l a b : Expr} {Ta Tb : Tm} {p pos : Pos}
/-- a list or a tuple -/
def iSq (K : PySem.W.Frag) (tl : TE) : TI := fun σ H R => tl σ H fun x H1 => ∃ a, x = .ref a ∧ (((∃ xs, SqL K H1 a xs) ∧ R (Itl K a) H1) ∨ ((∃ xs, SqT K H1 a xs) ∧ R (Itt K a) H1))
theorem pi_sq {tl : TE} (hl : PE X l tl) : PI X tg l (iSq X.K tl) := ⟨fun pins s σ H R I h => thn (hl.run pins s σ H _ I h) fun v s1 hq => by
  obtain ⟨x, H1, J, rx, a, rfl, hq⟩ := hq
  cases rx
  have fp : ∀ b ∈ [s1.heap.objs.size], FpOk X pins H1 b := fun b hb => by
    rw [List.mem_singleton.mp hb]
    exact J.fpOk (Nat.le_refl _) (J.hok.fresh (Nat.le_refl _))
  rcases hq with ⟨⟨xs, sq⟩, q⟩ | ⟨⟨xs, sq⟩, q⟩
  · obtain ⟨its, _, pl, _⟩ := J.list sq
    exact wpAny_pyIter_list pl.isList ⟨_, [_], _, _, H1, rfl, J.kept (t' := s1.toks) (fun _ _ e => Heap.get?_push_of_some _ e), turn_list a _, ⟨_, Heap.get?_push_size _ rfl, rfl, rfl⟩, fp, q⟩
  · obtain ⟨its, _, pl, _⟩ := J.tuple sq
    exact wpAny_pyIter_tuple (show s1.heap.IsTuple a its.toArray from pl) ⟨_, [_], _, _, H1, rfl, J.kept (t' := s1.toks) (fun _ _ e => Heap.get?_push_of_some _ e), turn_tuple a _, ⟨_, Heap.get?_push_size _ rfl, rfl, rfl⟩, fp, q⟩⟩
def itemsOf : D → Option (List D)
  | .lst xs => some xs
  | .tup xs => some xs
  | _ => none
def wiSq (T : Tm) : Ti := fun env Q E => T env (fun d env1 => ∃ xs, itemsOf d = some xs ∧ Q xs env1) E
theorem yields_of {G : Pg} {P : Zs → Hp → Prop} {J : It} {vs : List V} {xs : List D} {GG : Hp → Prop} (w : Walk J vs.length GG (YAt vs)) (hg : ∀ Z H, P Z H → GG H ∧ RepL G (vis Z.O H) Z.h vs xs) (hl : vs.length = xs.length) : Yields G P J xs := by
  refine ⟨fun Z H i p hi => w.goes i H (by omega) (hg Z H p).1, fun Z H p => by rw [← hl]; exact w.stops H (hg Z H p).1, fun Z H i x H' p oin hi y => ?_⟩
  obtain ⟨e1, e2⟩ := w.yields i H x H' (by omega) (hg Z H p).1 y
  subst e1
  refine ⟨fun _ _ e => e, fun d hd => ?_⟩
  obtain ⟨d', e3, r⟩ := (hg Z _ p).2.getV e2
  rw [hd] at e3; cases e3
  exact r
theorem di_sq (md : Md Rr P) (hK : X.K = S.G.K) (h : DX S Rr X l Ta) : DI S P X tg l (wiSq Ta) := ⟨fun W tk => by
  obtain ⟨t, pp, q⟩ := h.run W tk
  refine ⟨_, pi_sq pp, fun Z env σ H Q E R' R hT k x => ?_⟩
  refine q Z env σ H _ E _ R hT (fun Z1 env1 v d H1 R1 t1 r1 h1 => ?_) x
  obtain ⟨xs, ex, h1⟩ := h1
  cases d with
  | lst ys =>
    cases ex
    obtain ⟨a, vs, rfl, st⟩ := md.lst R1 r1
    obtain ⟨s0, r0⟩ := st Z1 H1 (md.refl _ _)
    rw [← hK] at s0
    refine ⟨a, rfl, .inl ⟨⟨vs, s0⟩, k Z1 env1 _ xs H1 R1 t1 (yields_of walk_list (fun Z2 H2 p => ?_) r0.length) h1⟩⟩
    have := st Z2 H2 p
    rw [← hK] at this
    exact this
  | tup ys =>
    cases ex
    obtain ⟨a, vs, rfl, st⟩ := md.tup R1 r1
    obtain ⟨s0, r0⟩ := st Z1 H1 (md.refl _ _)
    rw [← hK] at s0
    refine ⟨a, rfl, .inr ⟨⟨vs, s0⟩, k Z1 env1 _ xs H1 R1 t1 (yields_of walk_tup (fun Z2 H2 p => ?_) r0.length) h1⟩⟩
    have := st Z2 H2 p
    rw [← hK] at this
    exact this
  | non => cases ex
  | bl _ => cases ex
  | int _ => cases ex
  | str _ => cases ex
  | dct _ => cases ex
  | obj _ _ => cases ex
  | frz _ => cases ex
  | hand => cases ex⟩
/-- range -/
def rangeD (lo hi : Int) : List D := (List.range (hi - lo).toNat).map fun (k : Nat) => D.int (lo + k)
theorem rangeD_len (lo hi : Int) : (rangeD lo hi).length = (hi - lo).toNat := by unfold rangeD; simp
def wiR1 (T : Tm) : Ti := fun env Q E => T env (fun d env1 => match d with | .int j => -4611686018427387904 ≤ j ∧ j < 4611686018427387904 ∧ Q (rangeD 0 j) env1 | _ => False) E
def wiR2 (Ta Tb : Tm) : Ti := fun env Q E => Ta env (fun d env1 => Tb env1 (fun d2 env2 => match d, d2 with
  | .int i, .int j => -4611686018427387904 ≤ i ∧ i < 4611686018427387904 ∧ -4611686018427387904 ≤ j ∧ j < 4611686018427387904 ∧ Q (rangeD i j) env2
  | _, _ => False) E) E
theorem yields_range {G : Pg} {P : Zs → Hp → Prop} (lo hi : Int) : Yields G P (Itr lo (hi - lo).toNat) (rangeD lo hi) := by
  refine ⟨fun Z H i p hi' => by rw [rangeD_len] at hi'; exact hi', fun Z H p => by rw [rangeD_len]; exact Nat.le_refl _, fun Z H i x H' p oin hi' y => ?_⟩
  obtain ⟨rfl, rfl⟩ := y
  refine ⟨fun _ _ e => e, fun d hd => ?_⟩
  unfold rangeD at hd
  rw [List.getElem?_map] at hd
  cases q : (List.range (hi - lo).toNat)[i]? with
  | none => rw [q] at hd; cases hd
  | some k =>
    rw [q] at hd
    have := List.getElem?_range (by rw [rangeD_len] at hi'; exact hi')
    rw [this] at q; cases q; cases hd
    exact .int _
theorem di_r1 (hm : X.mg "range" = none) (h : DB S X a Ta) (hg : Gl X "range" := by rfl) (hs : starEach [a] X.env = [(false, eval a X.env)] := by rfl) : DI S P X tg (.Call (.Name "range" p) [a] [] pos) (wiR1 Ta) := ⟨fun W tk => by
  obtain ⟨t, pp, q⟩ := h.run W tk
  refine ⟨_, pi_range1 hg hm (pa_cons pp pa_nil hs) hs, fun Z env σ H Q E R' R hT k x => ?_⟩
  refine q Z env σ H _ E _ R hT (fun Z1 env1 v d H1 R1 t1 r1 h1 => ?_) x
  split at h1
  · obtain ⟨b1, b2, h1⟩ := h1
    rw [r1.int]
    refine ⟨_, rfl, by omega, by omega, ?_⟩
    have := k Z1 env1 _ _ H1 R1 t1 (yields_range 0 _) h1
    simpa using this
  · exact h1.elim⟩
theorem di_r2 (hm : X.mg "range" = none) (h : DB S X a Ta) (h' : DB S X b Tb) (hg : Gl X "range" := by rfl) (hs : starEach [a, b] X.env = [(false, eval a X.env), (false, eval b X.env)] := by rfl) (hs2 : starEach [b] X.env = [(false, eval b X.env)] := by rfl) :
    DI S P X tg (.Call (.Name "range" p) [a, b] [] pos) (wiR2 Ta Tb) := ⟨fun W tk => by
  obtain ⟨t, pp, q⟩ := h.run W tk
  obtain ⟨t', pp', q'⟩ := h'.run W tk
  refine ⟨_, pi_range2 hg hm (pa_cons pp (pa_cons pp' pa_nil hs2) (by rw [hs, hs2])) hs hs2, fun Z env σ H Q E R' R hT k x => ?_⟩
  refine q Z env σ H _ E _ R hT (fun Z1 env1 v d H1 R1 t1 r1 h1 => ?_) x
  refine q' Z1 env1 σ H1 _ E _ R1 h1 (fun Z2 env2 v2 d2 H2 R2 t2 r2 h2 => ?_) (x.on R1 t1)
  split at h2
  · obtain ⟨b1, b2, b3, b4, h2⟩ := h2
    rw [r1.int, r2.int]
    exact ⟨_, _, rfl, ⟨by omega, by omega, by omega, by omega⟩, k Z2 env2 _ _ H2 R2 (Tr.trans R1 t1 t2) (yields_range _ _) h2⟩
  · exact h2.elim⟩
/-- enumerate of a list -/
def enumD : Nat → List D → List D
  | _, [] => []
  | k, x :: r => .tup [.int k, x] :: enumD (k + 1) r
theorem enumD_len : ∀ (k : Nat) (xs : List D), (enumD k xs).length = xs.length
  | _, [] => rfl
  | k, _ :: r => by rw [enumD, List.length_cons, List.length_cons, enumD_len (k + 1) r]
theorem enumD_get : ∀ (k : Nat) (xs : List D) (i : Nat), (enumD k xs)[i]? = xs[i]?.map fun x => .tup [.int ((k + i : Nat) : Int), x]
  | _, [], i => by simp [enumD]
  | k, x :: r, 0 => by simp [enumD]
  | k, x :: r, i + 1 => by
    rw [enumD, List.getElem?_cons_succ, List.getElem?_cons_succ, enumD_get (k + 1) r i]
    have : k + 1 + i = k + (i + 1) := by omega
    rw [this]
theorem yields_enum {G : Pg} {P : Zs → Hp → Prop} {a : Addr} {vs : List V} {xs : List D} (st : ∀ Z2 H2, P Z2 H2 → SqL G.K H2 a vs ∧ RepL G (vis Z2.O H2) Z2.h vs xs) (hl : vs.length = xs.length) : Yields G P (Ite G.K a) (enumD 0 xs) := by
  refine ⟨fun Z H i p hi => ?_, fun Z H p => ?_, fun Z H i x H' p oin hi y => ?_⟩
  · exact walk_enum.goes i H (by rw [enumD_len] at hi; omega) (st Z H p).1
  · have := walk_enum.stops H (st Z H p).1
    rw [enumD_len, ← hl]; exact this
  · obtain ⟨s1, r1⟩ := st Z H p
    obtain ⟨T, x', y', rfl, hT, rfl, e1, e2⟩ := walk_enum.yields i H x H' (by rw [enumD_len] at hi; omega) s1 y
    cases e1
    refine ⟨same_upd hT, fun d hd => ?_⟩
    obtain ⟨d', e3, r⟩ := r1.getV e2
    rw [enumD_get, e3] at hd
    cases hd
    have e0 : 0 + i = i := Nat.zero_add i
    rw [e0]
    exact new_tup oin hT (.cons (.int _) (.cons r .nil))
theorem yields_enumT {G : Pg} {P : Zs → Hp → Prop} {a : Addr} {vs : List V} {xs : List D} (st : ∀ Z2 H2, P Z2 H2 → SqT G.K H2 a vs ∧ RepL G (vis Z2.O H2) Z2.h vs xs) (hl : vs.length = xs.length) : Yields G P (IteT G.K a) (enumD 0 xs) := by
  refine ⟨fun Z H i p hi => ?_, fun Z H p => ?_, fun Z H i x H' p oin hi y => ?_⟩
  · exact walk_enumT.goes i H (by rw [enumD_len] at hi; omega) (st Z H p).1
  · have := walk_enumT.stops H (st Z H p).1
    rw [enumD_len, ← hl]; exact this
  · obtain ⟨s1, r1⟩ := st Z H p
    obtain ⟨T, x', y', rfl, hT, rfl, e1, e2⟩ := walk_enumT.yields i H x H' (by rw [enumD_len] at hi; omega) s1 y
    cases e1
    refine ⟨same_upd hT, fun d hd => ?_⟩
    obtain ⟨d', e3, r⟩ := r1.getV e2
    rw [enumD_get, e3] at hd
    cases hd
    have e0 : 0 + i = i := Nat.zero_add i
    rw [e0]
    exact new_tup oin hT (.cons (.int _) (.cons r .nil))
def wiEn (T : Tm) : Ti := fun env Q E => T env (fun d env1 => match d with | .lst xs => Q (enumD 0 xs) env1 | .tup xs => Q (enumD 0 xs) env1 | _ => False) E
theorem di_enL {elts : List Expr} {kk : Nat} {tpos : Pos} (md : Md Rr P) (hK : X.K = S.G.K) (hm : X.mg "enumerate" = none) (h : DX S Rr X a Ta) (hg : Gl X "enumerate" := by rfl) (hs : starEach [a] X.env = [(false, eval a X.env)] := by rfl) :
    DI S P X (.Tuple elts kk tpos) (.Call (.Name "enumerate" p) [a] [] pos) (wiEn Ta) := ⟨fun W tk => by
  obtain ⟨t, pp, q⟩ := h.run W tk
  refine ⟨_, pi_enumA hg hm (pa_cons pp pa_nil hs) hs, fun Z env σ H Q E R' R hT k x => ?_⟩
  refine q Z env σ H _ E _ R hT (fun Z1 env1 v d H1 R1 t1 r1 h1 => ?_) x
  split at h1
  · obtain ⟨a, vs, rfl, st⟩ := md.lst R1 r1
    obtain ⟨s0, r0⟩ := st Z1 H1 (md.refl _ _)
    refine ⟨a, vs, rfl, .inl ⟨by rw [hK]; exact s0, ?_⟩⟩
    rw [hK]
    exact k Z1 env1 _ _ H1 R1 t1 (yields_enum st r0.length) h1
  · obtain ⟨a, vs, rfl, st⟩ := md.tup R1 r1
    obtain ⟨s0, r0⟩ := st Z1 H1 (md.refl _ _)
    refine ⟨a, vs, rfl, .inr ⟨by rw [hK]; exact s0, ?_⟩⟩
    rw [hK]
    exact k Z1 env1 _ _ H1 R1 t1 (yields_enumT st r0.length) h1
  · exact h1.elim⟩
/-- zip of two lists, of two tuples -/
def zipD : List D → List D → List D
  | x :: xs, y :: ys => .tup [x, y] :: zipD xs ys
  | _, _ => []
theorem zipD_len : ∀ xs ys, (zipD xs ys).length = min xs.length ys.length
  | [], ys => by simp [zipD]
  | x :: xs, [] => by simp [zipD]
  | x :: xs, y :: ys => by rw [zipD, List.length_cons, zipD_len xs ys, List.length_cons, List.length_cons]; omega
theorem zipD_get : ∀ (xs ys : List D) (i : Nat) (x y : D), xs[i]? = some x → ys[i]? = some y → (zipD xs ys)[i]? = some (.tup [x, y])
  | [], _, _, _, _, e, _ => by simp at e
  | _ :: _, [], _, _, _, _, e => by simp at e
  | x :: xs, y :: ys, 0, _, _, e1, e2 => by simp at e1 e2; subst e1 e2; rfl
  | x :: xs, y :: ys, i + 1, a, b, e1, e2 => by
    rw [zipD, List.getElem?_cons_succ]
    exact zipD_get xs ys i a b (by simpa using e1) (by simpa using e2)
theorem yields_pair {G : Pg} {P : Zs → Hp → Prop} {J : It} {vs ws : List V} {xs ys : List D} {GG : Hp → Prop} (w : Walk J (min vs.length ws.length) GG (YPair (fun i => vs[i]?) (fun i => ws[i]?)))
    (st : ∀ Z2 H2, P Z2 H2 → GG H2 ∧ RepL G (vis Z2.O H2) Z2.h vs xs ∧ RepL G (vis Z2.O H2) Z2.h ws ys) (hl : vs.length = xs.length) (hl2 : ws.length = ys.length) : Yields G P J (zipD xs ys) := by
  refine ⟨fun Z H i p hi => ?_, fun Z H p => ?_, fun Z H i x H' p oin hi y => ?_⟩
  · exact w.goes i H (by rw [zipD_len] at hi; omega) (st Z H p).1
  · have := w.stops H (st Z H p).1
    rw [zipD_len, ← hl, ← hl2]; exact this
  · obtain ⟨g1, r1, r2⟩ := st Z H p
    obtain ⟨T, x', y', rfl, hT, rfl, e1, e2⟩ := w.yields i H x H' (by rw [zipD_len] at hi; omega) g1 y
    refine ⟨same_upd hT, fun d hd => ?_⟩
    obtain ⟨d1, e3, q1⟩ := r1.getV e1
    obtain ⟨d2, e4, q2⟩ := r2.getV e2
    rw [zipD_get xs ys i d1 d2 e3 e4] at hd
    cases hd
    exact new_tup oin hT (.cons q1 (.cons q2 .nil))
theorem walk_zipT {K : PySem.W.Frag} {a b : Addr} {xs ys : List V} : Walk (RZ.ItzT K a b) (min xs.length ys.length) (fun H => SqT K H a xs ∧ SqT K H b ys) (YPair (fun i => xs[i]?) (fun i => ys[i]?)) := by
  refine ⟨fun i H hi q => ?_, fun H q => ⟨xs, ys, q.1, q.2, by omega⟩, fun i H v H' hi q y => ?_⟩
  · have h1 : i < xs.length := by omega
    have h2 : i < ys.length := by omega
    exact ⟨xs, ys, xs[i], ys[i], q.1, q.2, by simp [h1], by simp [h2]⟩
  · obtain ⟨T, x, z, h1, h2, h3, h4, h5⟩ := y
    exact ⟨T, x, z, h1, h2, h3, h4 xs q.1, h5 ys q.2⟩
def wiZip (Ta Tb : Tm) : Ti := fun env Q E => Ta env (fun d env1 => Tb env1 (fun d2 env2 => match d, d2 with
  | .lst xs, .lst ys => Q (zipD xs ys) env2
  | .tup xs, .tup ys => Q (zipD xs ys) env2
  | _, _ => False) E) E
theorem di_zip {elts : List Expr} {kk : Nat} {tpos : Pos} (md : Md Rr P) (ron : ∀ {Z env σ H Z' H' v d}, Rr S.G Z H v d → Rel S Z env σ H → Tr Z H Z' H' → Rr S.G Z' H' v d) (hK : X.K = S.G.K) (hm : X.mg "zip" = none) (h : DX S Rr X a Ta) (h' : DX S Rr X b Tb) (hg : Gl X "zip" := by rfl)
    (hs : starEach [a, b] X.env = (false, eval a X.env) :: starEach [b] X.env := by rfl) (hpl : (backTo pos (starEach [b] X.env)).any (·.1) = false := by rfl) (hs2 : starEach [b] X.env = (false, eval b X.env) :: starEach [] X.env := by rfl) :
    DI S P X (.Tuple elts kk tpos) (.Call (.Name "zip" p) [a, b] [] pos) (wiZip Ta Tb) := ⟨fun W tk => by
  obtain ⟨t, pp, q⟩ := h.run W tk
  obtain ⟨t', pp', q'⟩ := h'.run W tk
  refine ⟨_, RZ.pi_zipA hg hm (pa_cons pp (pa_cons pp' pa_nil hs2) hs) hs hpl, fun Z env σ H Q E R' R hT k x => ?_⟩
  refine q Z env σ H _ E _ R hT (fun Z1 env1 v d H1 R1 t1 r1 h1 => ?_) x
  refine q' Z1 env1 σ H1 _ E _ R1 h1 (fun Z2 env2 v2 d2 H2 R2 t2 r2 h2 => ?_) (x.on R1 t1)
  have r1' := ron r1 R1 t2
  split at h2
  · obtain ⟨a, vs, rfl, st⟩ := md.lst R2 r1'
    obtain ⟨b, ws, rfl, st2⟩ := md.lst R2 r2
    obtain ⟨s0, r0⟩ := st Z2 H2 (md.refl _ _)
    obtain ⟨s02, r02⟩ := st2 Z2 H2 (md.refl _ _)
    refine ⟨a, b, vs, ws, rfl, .inl ⟨by rw [hK]; exact s0, by rw [hK]; exact s02, ?_⟩⟩
    rw [hK]
    exact k Z2 env2 _ _ H2 R2 (Tr.trans R1 t1 t2) (yields_pair (walk_zip rfl) (fun Z3 H3 p => ⟨⟨(st Z3 H3 p).1, (st2 Z3 H3 p).1⟩, (st Z3 H3 p).2, (st2 Z3 H3 p).2⟩) r0.length r02.length) h2
  · obtain ⟨a, vs, rfl, st⟩ := md.tup R2 r1'
    obtain ⟨b, ws, rfl, st2⟩ := md.tup R2 r2
    obtain ⟨s0, r0⟩ := st Z2 H2 (md.refl _ _)
    obtain ⟨s02, r02⟩ := st2 Z2 H2 (md.refl _ _)
    refine ⟨a, b, vs, ws, rfl, .inr ⟨by rw [hK]; exact s0, by rw [hK]; exact s02, ?_⟩⟩
    rw [hK]
    exact k Z2 env2 _ _ H2 R2 (Tr.trans R1 t1 t2) (yields_pair walk_zipT (fun Z3 H3 p => ⟨⟨(st Z3 H3 p).1, (st2 Z3 H3 p).1⟩, (st Z3 H3 p).2, (st2 Z3 H3 p).2⟩) r0.length r02.length) h2
  · exact h2.elim⟩

/-! ### targets of names -/
abbrev Tg := D → Env → (Env → Prop) → Prop
abbrev Tgs := List D → Env → (Env → Prop) → Prop
/-- ix: the slots that are stored -/
structure DG (S : Ent) (X : Cx) (tg : Expr) (ix : List Nat) (g : Tg) : Prop where
  run : ∃ t, PG X tg t ∧ ∀ Z env σ H v d (K : Env → Prop) (K' : L2.St → Hp → Prop), Rel S Z env σ H → RS S.G Z H v d → g d env K →
    (∀ env' σ', Rel S Z env' σ' H → (∀ vs, (∀ i ∈ ix, i ∈ vs) → L2.wipe σ' vs = L2.wipe σ vs) → K env' → K' σ' H) → t v σ H K'
structure DGs (S : Ent) (X : Cx) (tg : List Expr) (ix : List Nat) (g : Tgs) : Prop where
  run : ∃ t, PGs X tg t ∧ ∀ Z env σ H vs ds (K : Env → Prop) (K' : L2.St → Hp → Prop), Rel S Z env σ H → RepL S.G (vis Z.O H) Z.h vs ds → g ds env K →
    (∀ env' σ', Rel S Z env' σ' H → (∀ vs, (∀ i ∈ ix, i ∈ vs) → L2.wipe σ' vs = L2.wipe σ vs) → K env' → K' σ' H) → t vs σ H K'
theorem wipe_set {i : Nat} {x : Option V} (σ : L2.St) : ∀ {vs : List Nat}, i ∈ vs → L2.wipe (σ.set i x) vs = L2.wipe σ vs
  | v :: vs, h => by
    unfold L2.wipe
    by_cases hv : i = v
    · subst hv
      apply List.ext_getElem?
      intro j
      by_cases hj : i = j
      · subst hj
        by_cases hi : i < σ.length
        · rw [List.getElem?_set_self (by rw [wipe_length, List.length_set]; exact hi), List.getElem?_set_self (by rw [wipe_length]; exact hi)]
        · rw [List.getElem?_eq_none (by rw [List.length_set, wipe_length, List.length_set]; omega), List.getElem?_eq_none (by rw [List.length_set, wipe_length]; omega)]
      · rw [List.getElem?_set_ne hj, List.getElem?_set_ne hj]
        by_cases hm : j ∈ vs
        · by_cases hlt : j < σ.length
          · have h1 : ∀ s : L2.St, j < s.length → (L2.wipe s vs)[j]? = some none := fun s hs => by
              cases q : (L2.wipe s vs)[j]? with
              | none => rw [List.getElem?_eq_none_iff, wipe_length] at q; omega
              | some o =>
                cases o with
                | none => rfl
                | some w => exact absurd hm (wipe_some q).2
            rw [h1 _ (by rw [List.length_set]; exact hlt), h1 _ hlt]
          · rw [List.getElem?_eq_none (by rw [wipe_length, List.length_set]; omega), List.getElem?_eq_none (by rw [wipe_length]; omega)]
        · rw [wipe_out hm, wipe_out hm, List.getElem?_set_ne hj]
    · rw [wipe_set σ ((List.mem_cons.mp h).resolve_left hv)]
def gN (i : Nat) : Tg := fun d env K => K (env.set i (.val d))
theorem dg_name (i : Nat) {x : Str} {pos : Pos} (hN : X.N.Nodup) (hi : X.N[i]? = some x := by rfl) (hx : Loc X.env.scope x := by first | exact Or.inl rfl | exact Or.inr rfl) (hf : X.fn x = true ∨ X.env.scope.names.lookup x = some .local := by first | exact .inl rfl | exact .inr rfl) :
    DG S X (.Name x pos) [i] (gN i) := ⟨_, pg_name hN hi hx hf, fun Z env σ H v d K K' R r hg k => k _ _ (R.put r) (fun vs h => wipe_set σ (h i List.mem_cons_self)) hg⟩
def gNil : Tgs := fun ds env K => ds = [] ∧ K env
def gCons (g : Tg) (gs : Tgs) : Tgs := fun ds env K => match ds with
  | d :: r => g d env fun env1 => gs r env1 K
  | [] => False
def gTup (n : Nat) (gs : Tgs) : Tg := fun d env K => match d with
  | .tup ds => ds.length = n ∧ gs ds env K
  | _ => False
theorem dgs_nil : DGs S X [] [] gNil := ⟨_, pgs_nil, fun Z env σ H vs ds K K' R r hg k => by
  obtain ⟨rfl, hg⟩ := hg
  cases r
  exact ⟨rfl, k env σ R (fun _ _ => rfl) hg⟩⟩
theorem dgs_cons {e : Expr} {es : List Expr} {ix ix' : List Nat} {g : Tg} {gs : Tgs} (h1 : DG S X e ix g) (h2 : DGs S X es ix' gs) (hs : (assignEach (e :: es) X.env).map (·.2) = assign e X.env :: (assignEach es X.env).map (·.2) := by rfl) :
    DGs S X (e :: es) (ix ++ ix') (gCons g gs) := by
  obtain ⟨t, p, q⟩ := h1.run
  obtain ⟨t', p', q'⟩ := h2.run
  refine ⟨_, pgs_cons p p' hs, fun Z env σ H vs ds K K' R r hg k => ?_⟩
  cases r with
  | nil => exact hg.elim
  | cons r rs =>
    refine ⟨_, _, rfl, q Z env σ H _ _ _ _ R r hg fun env1 σ1 R1 w1 h1 => ?_⟩
    refine q' Z env1 σ1 H _ _ _ _ R1 rs h1 fun env2 σ2 R2 w2 h2 => k env2 σ2 R2 (fun vs hv => ?_) h2
    rw [w2 vs fun i hi => hv i (List.mem_append_right _ hi), w1 vs fun i hi => hv i (List.mem_append_left _ hi)]
theorem dg_tup {es : List Expr} {kk : Nat} {pos : Pos} {ix : List Nat} {gs : Tgs} {n : Nat} (hK : X.K = S.G.K) (hc : X.calm = true) (h : DGs S X es ix gs) (hn : (assignEach es X.env).length = n := by rfl) (hst : (assignEach es X.env).findIdx? (·.1) = none := by rfl) :
    DG S X (.Tuple es kk pos) ix (gTup n gs) := by
  obtain ⟨t, p, q⟩ := h.run
  refine ⟨_, pg_tup hc p hn hst, fun Z env σ H v d K K' R r hg k => ?_⟩
  unfold gTup at hg
  split at hg
  · cases r with
    | tup e rl =>
      exact ⟨_, _, rfl, by rw [hK]; exact sqT_vis e, by rw [rl.length]; exact hg.1, q Z env σ H _ _ K K' R rl hg.2 k⟩
  · exact hg.elim

/-! ### [elt for target in iter if test] -/
/-- a clause's tests -/
structure DIf (S : Ent) (X : Cx) (ifs : List Expr) (A : Tt) : Prop where
  sem : ∀ W, Takes X W → PTs X ifs (semT S A W)
def wYes : Tt := fun env Q _ => Q true env
theorem dif_nil : DIf S X [] wYes := ⟨fun W tk => ⟨fun pins s σ H Q I hh => by
  obtain ⟨Z, env, Qd, E, R, hT, k, x⟩ := hh
  exact pts_nil.run pins s σ H Q I (k Z env true H R .refl hT)⟩⟩
theorem dif_one {c : Expr} {A : Tt} (h : DT S X c A) : DIf S X [c] A := ⟨fun W tk => pts_one (h.sem tk)⟩
/-- the turns: acc what is made so far -/
def lcGo (g : Tg) (A : Tt) (Te : Tm) (ws : List Nat) : List D → List D → Env → (List D → Env → Prop) → Prop
  | [], acc, env, K => K acc env
  | x :: xs, acc, env, K => g x env fun env1 => A env1 (fun b env2 => if b = true then Te env2 (fun d env3 => lcGo g A Te ws xs (acc ++ [d]) (wipeE env3 ws) K) (fun _ _ => False) else lcGo g A Te ws xs acc (wipeE env2 ws) K) fun _ _ => False
def wLc (Ti' : Ti) (g : Tg) (A : Tt) (Te : Tm) (ws : List Nat) : Tf := fun env Q E => Ti' env (fun xs env1 => xs.length ≤ big ∧ lcGo g A Te ws xs [] (wipeE env1 ws) fun acc env2 => ∀ a, Q (.own a acc) (restE env1 env2 ws)) E
theorem restE_get {env e2 : Env} : ∀ {vs : List Nat} {j : Nat} {x : Sl}, (restE env e2 vs)[j]? = some x → x.owns = true → j ∉ vs ∧ e2[j]? = some x
  | [], j, x, h, _ => ⟨by simp, h⟩
  | v :: vs, j, x, h, o => by
    unfold restE at h
    by_cases hj : v = j
    · subst hj
      by_cases hv : v < (restE env e2 vs).length
      · rw [List.getElem?_set_self hv] at h
        cases h
        cases q : env[v]?.getD .no <;> rw [q] at o <;> cases o
      · rw [List.getElem?_eq_none (by simpa using hv)] at h; cases h
    · rw [List.getElem?_set_ne hj] at h
      obtain ⟨h1, h2⟩ := restE_get h o
      exact ⟨by simp [Ne.symm hj, h1], h2⟩
theorem Spare.back {Z : Zs} {env e2 : Env} {σ : L2.St} {ws : List Nat} {a : Addr} (sp : Spare S Z e2 (L2.wipe σ ws) a) : Spare S Z (restE env e2 ws) σ a :=
  ⟨sp.ino, sp.nh, sp.ne, fun j x e o s => by
    obtain ⟨h1, h2⟩ := restE_get e o
    exact sp.no j x h2 o (by rw [wipe_out h1]; exact s)⟩
theorem wipe_wipe (σ : L2.St) (ws : List Nat) : L2.wipe (L2.wipe σ ws) ws = L2.wipe σ ws := by
  apply List.ext_getElem?
  intro j
  by_cases hm : j ∈ ws
  · have h1 : ∀ s : L2.St, j < s.length → (L2.wipe s ws)[j]? = some none := fun s hs => by
      cases q : (L2.wipe s ws)[j]? with
      | none => rw [List.getElem?_eq_none_iff, wipe_length] at q; omega
      | some o =>
        cases o with
        | none => rfl
        | some w => exact absurd hm (wipe_some q).2
    by_cases hlt : j < σ.length
    · rw [h1 _ (by rw [wipe_length]; exact hlt), h1 _ hlt]
    · rw [List.getElem?_eq_none (by rw [wipe_length, wipe_length]; omega), List.getElem?_eq_none (by rw [wipe_length]; omega)]
  · rw [wipe_out hm]
abbrev W0 : WX := fun _ _ _ _ => False
theorem exOk0 {Z : Zs} {H : Hp} {σ : L2.St} : ExOk S Z H σ (fun _ _ => False) W0 := fun _ _ _ _ _ _ _ _ _ hf => hf
theorem lc_turns {D0 : Addr} {g : Tg} {A : Tt} {Te : Tm} {ws ix : List Nat} {gt : TG} (hix : ∀ i ∈ ix, i ∈ ws)
    (rg : ∀ Z env σ H v d (K : Env → Prop) (K' : L2.St → Hp → Prop), Rel S Z env σ H → RS S.G Z H v d → g d env K →
      (∀ env' σ', Rel S Z env' σ' H → (∀ vs, (∀ i ∈ ix, i ∈ vs) → L2.wipe σ' vs = L2.wipe σ vs) → K env' → K' σ' H) → gt v σ H K')
    {Z1 : Zs} {env1 : Env} {σ : L2.St} {H1 : Hp} {J : It} {items : List D} {Qf : Hp → Prop} {Kf : List D → Env → Prop} (R1 : Rel S Z1 env1 σ H1) (y : Yields S.G (Mv Z1 H1) J items) (hD : H1 D0 = none) (hz : items.length ≤ big)
    (hT : lcGo g A Te ws items [] (wipeE env1 ws) Kf)
    (fin : ∀ Z' e2 vs acc H', Rel S Z' e2 (L2.wipe σ ws) H' → Tr ⟨Z1.O, Z1.h, D0 :: Z1.B⟩ H1 Z' H' → H' D0 = some (.lst vs) → RepL S.G (vis Z'.O H') Z'.h vs acc → Kf acc e2 → Qf H') :
    ∃ W : Nat → Nat → Hp → Prop, (∃ m, W 0 m (upd H1 D0 (.lst []))) ∧ ∀ i m H, W i m H →
      (J.stop i H ∧ Qf H) ∨ (J.go i H ∧ ∃ Nx : Hp → Prop, (∀ H', Nx H' → ∃ m', m' < m ∧ W (i + 1) m' H') ∧ ∀ x H', J.yld i H x H' → gt x (L2.wipe σ ws) H' fun σ2 H2 => L2.wipe σ2 ws = L2.wipe σ ws ∧ semT S A W0 σ2 H2 fun b H3 =>
        if b = true then semE S RS Te W0 σ2 H3 fun y H4 => ∃ acc, H4 D0 = some (.lst acc) ∧ acc.length < sizeLine ∧ Nx (upd H4 D0 (.lst (acc ++ [y]))) else Nx H3) := by
  let Inv : Nat → Hp → Prop := fun i H => ∃ Z' e2 vs acc, Rel S Z' e2 (L2.wipe σ ws) H ∧ Tr ⟨Z1.O, Z1.h, D0 :: Z1.B⟩ H1 Z' H ∧ H D0 = some (.lst vs) ∧ RepL S.G (vis Z'.O H) Z'.h vs acc ∧ acc.length + (items.length - i) ≤ big ∧ lcGo g A Te ws (items.drop i) acc e2 Kf
  refine ⟨fun i m H => m = items.length - i ∧ i ≤ items.length ∧ Inv i H, ⟨_, rfl, Nat.zero_le _, ?_⟩, ?_⟩
  · obtain ⟨R2, t2, no, h0, hh, hn⟩ := R1.hide (o := .lst []) hD
    have R3 := (R2.reserve (p := D0) ⟨List.mem_cons_self, hh, h0, no⟩).wipe ws
    exact ⟨_, _, [], [], R3, ⟨t2.keep, t2.osub, t2.hh, t2.hz, rfl⟩, upd_same, .nil, by simpa using hz, hT⟩
  · rintro i m H ⟨rfl, hi, Z', e2, vs, acc, R, t, hD', rl, hl, hgo⟩
    have mv : Mv Z1 H1 Z' H := ⟨t.keep, t.osub, t.hh⟩
    by_cases hlt : i < items.length
    · refine .inr ⟨y.go _ H i mv hlt, Inv (i + 1), fun H' h => ⟨items.length - (i + 1), by omega, rfl, hlt, h⟩, fun x H' hy => ?_⟩
      obtain ⟨sm, hx⟩ := y.yld _ H i x H' mv R.oin hlt hy
      have hd : items[i]? = some items[i] := List.getElem?_eq_getElem hlt
      rw [List.drop_eq_getElem_cons hlt] at hgo
      have R' := R.grow sm
      have rx : RS S.G Z' H' x items[i] := hx _ hd
      refine rg Z' e2 _ H' x _ _ _ R' rx hgo fun env3 σ3 R3 w3 h3 => ?_
      have wS : L2.wipe σ3 ws = L2.wipe σ ws := by rw [w3 ws hix, wipe_wipe]
      have carry : ∀ {Z5 env5 H5}, Rel S Z5 env5 σ3 H5 → Tr Z' H Z5 H5 → H5 D0 = some (.lst vs) ∧ RepL S.G (vis Z5.O H5) Z5.h vs acc ∧ Tr ⟨Z1.O, Z1.h, D0 :: Z1.B⟩ H1 Z5 H5 := fun {Z5 env5 H5} R5 t5 =>
        ⟨(t5.keep _ _ hD' (R.res D0 (by rw [t.bb]; exact List.mem_cons_self)).nh).lst, (R.vle t5).repL rl, Tr.trans R t t5⟩
      refine ⟨wS, Z', env3, _, _, R3, h3, fun Z4 env4 b H4 R4 t4 hb => ?_, exOk0⟩
      have t' : Tr Z' H Z4 H4 := Tr.trans R' (.alloc sm) t4
      cases b with
      | false =>
        refine iteF ?_
        rw [if_neg Bool.false_ne_true] at hb
        obtain ⟨q1, q2, q4⟩ := carry R4 t'
        have Rw := R4.wipe ws
        rw [wS] at Rw
        exact ⟨Z4, _, vs, acc, Rw, q4, q1, q2, by omega, hb⟩
      | true =>
        refine iteT ?_
        rw [if_pos rfl] at hb
        refine ⟨Z4, env4, _, _, R4, hb, fun Z5 env5 v d H5 R5 t5 r5 h5 => ?_, exOk0⟩
        have t'' := Tr.trans R4 t' t5
        obtain ⟨q1, q2, q4⟩ := carry R5 t''
        have hlen := q2.length
        refine ⟨vs, q1, by rw [hlen, sizeLine_eq]; unfold big at hl; omega, ?_⟩
        have sp := R5.res D0 (by rw [q4.bb]; exact List.mem_cons_self)
        have Rp := (R5.poke (o := .lst (vs ++ [v])) sp q1 plain_lst).wipe ws
        rw [wS] at Rp
        refine ⟨Z5, _, vs ++ [v], acc ++ [d], Rp, ⟨fun b o e n => ?_, q4.osub, q4.hh, q4.hz, q4.bb⟩, upd_same, ?_, ?_, h5⟩
        · obtain ⟨o', e1, e2⟩ := q4.keep b o e n
          exact ⟨o', by rw [upd_ne (ne_of_none e hD)]; exact e1, e2⟩
        · rw [vis_upd_in sp.ino]
          exact q2.append (.cons r5 .nil)
        · rw [List.length_append]
          simp only [List.length_cons, List.length_nil]
          omega
    · have e : i = items.length := by omega
      subst e
      rw [List.drop_length] at hgo
      exact .inl ⟨y.stop _ H mv, fin Z' e2 vs acc H R t hD' rl hgo⟩
theorem df_lc {elt tg iter : Expr} {ifs : List Expr} {scope : Scope} {own : List (Str × Nat)} {pos : Pos} {T : Ti} {g : Tg} {A : Tt} {Te : Tm} {ix ws : List Nat} (hc : X.calm = true) (hN : X.N.Nodup) (hi : DI S Mv X tg iter T) (ok : BlkOk X.N X.env.scope scope own)
    (hg : ∀ (s : Shared) (H : Hp) (C : Addr) (cl : List (Str × Addr)) (fp : List Addr), DG S (X.blk s H scope (compEnvC scope cl C X.env) fp) tg ix g)
    (ht : ∀ (s : Shared) (H : Hp) (C : Addr) (cl : List (Str × Addr)) (fp : List Addr), DIf S (X.blk s H scope (compEnvC scope cl C X.env) fp) ifs A)
    (he : ∀ (s : Shared) (H : Hp) (C : Addr) (cl : List (Str × Addr)) (fp : List Addr), DE S (X.blk s H scope (compEnvC scope cl C X.env) fp) elt Te)
    (hw : own.map (·.2) = ws := by rfl) (hix : ∀ i ∈ ix, i ∈ ws := by decide) (hs : ∀ x, foldedSetIterable iter X.env x = pure x := by intro _; rfl) : DF S X (.ListComp elt [⟨tg, iter, ifs, 0⟩] scope pos) (wLc T g A Te ws) := ⟨fun W tk => by
  subst hw
  obtain ⟨wi, pi, qi⟩ := hi.run W tk
  -- one reading of the target for all blocks
  let gt : TG := fun v σ H K' => ∀ s0 H0 C cl fp, Classical.choose (hg s0 H0 C cl fp).run v σ H K'
  have pg : ∀ s0 H0 C cl fp, PG (X.blk s0 H0 scope (compEnvC scope cl C X.env) fp) tg gt := fun s0 H0 C cl fp =>
    ⟨fun pins s σ H v u Q I r h => (Classical.choose_spec (hg s0 H0 C cl fp).run).1.run pins s σ H v u Q I r (h s0 H0 C cl fp)⟩
  refine ⟨_, pe_lc hc hN pi ok pg (fun s H C cl fp => (ht s H C cl fp).sem W0 takes0) (fun s H C cl fp => (he s H C cl fp).sem takes0) hs, fun Z env σ H Q E Q' R hT k x => ?_⟩
  refine qi Z env σ H _ E _ R hT (fun Z1 env1 J items H1 R1 t1 y h1 D0 hD => ?_) x
  obtain ⟨hz, hgo⟩ := h1
  refine lc_turns hix (fun Z env σ H v d K K' R r hk kk s0 H0 C cl fp => (Classical.choose_spec (hg s0 H0 C cl fp).run).2 Z env σ H v d K K' R r hk kk) R1 y hD hz hgo fun Z' e2 vs acc H' R' t' hD' rl hq => ?_
  obtain ⟨R2, sp⟩ := R'.release t'.bb
  have t2 : Tr Z1 H1 ⟨Z'.O, Z'.h, Z1.B⟩ H' := ⟨t'.keep, t'.osub, t'.hh, t'.hz, rfl⟩
  have R3 := R1.back (R1.vle t2) R2
  exact k _ _ D0 (.own D0 acc) H' R3 (Tr.trans R1 t1 t2) sp.back (fun hb => (R1.oin D0 (R1.res D0 hb).ino) hD) rfl ⟨rfl, vs, hD', rl⟩ (hq D0)⟩
end
end DV

set_option Elab.async false
set_option linter.all false
set_option maxRecDepth 100000
/-! DV6: statements, defs. -/
namespace DV
open PySem PySem.Spec PyProof.Rows L2

structure Post where
  nx : Env → Prop
  rt : D → Env → Prop
  bk : Env → Prop
  ct : Env → Prop
  ex : Ex
  rf : Sl → Env → Prop := fun _ _ => False
abbrev Ts := Env → Post → Prop
structure Fits (S : Ent) (Z : Zs) (H : Hp) (P : Post) (D' : Ends) (W : WX) : Prop where
  nx : ∀ Z' env' σ' H', Rel S Z' env' σ' H' → Vle Z H Z' H' → P.nx env' → D'.nx σ' H'
  rt : ∀ Z' env' σ' v d H', Rel S Z' env' σ' H' → Vle Z H Z' H' → RS S.G Z' H' v d → P.rt d env' → D'.rt v H'
  bk : ∀ Z' env' σ' H', Rel S Z' env' σ' H' → Vle Z H Z' H' → P.bk env' → D'.bk σ' H'
  ct : ∀ Z' env' σ' H', Rel S Z' env' σ' H' → Vle Z H Z' H' → P.ct env' → D'.ct σ' H'
  ex : ∀ σ', ExV S Z H σ' P.ex W
  rf : ∀ Z' env' σ' a x H', Rel S Z' env' σ' H' → Vle Z H Z' H' → Spare S Z' env' σ' a → a ∉ Z'.B → OwnAt S Z' H' a x → P.rf x env' → D'.rt (.ref a) H'
theorem Fits.on {S : Ent} {Z Z' : Zs} {H H' : Hp} {P : Post} {D' : Ends} {W : WX} (f : Fits S Z H P D' W) (v : Vle Z H Z' H') : Fits S Z' H' P D' W :=
  ⟨fun Z2 e s H2 R v2 => f.nx Z2 e s H2 R (v.trans v2), fun Z2 e s x d H2 R v2 => f.rt Z2 e s x d H2 R (v.trans v2), fun Z2 e s H2 R v2 => f.bk Z2 e s H2 R (v.trans v2), fun Z2 e s H2 R v2 => f.ct Z2 e s H2 R (v.trans v2), fun s => (f.ex s).on v, fun Z2 e s a x H2 R v2 => f.rf Z2 e s a x H2 R (v.trans v2)⟩
/-- what a body's context lets out of its own loops -/
abbrev Pas (X : Cx) : Prop := PassesOwn (model X.prog X.w) X.A X.env X.xe
structure DS (S : Ent) (X : Cx) (st : Stmt) (T : Ts) : Prop where
  run : ∀ W, Takes X W → Pas X → ∃ t, PS X st t ∧ ∀ Z env σ H P D', Rel S Z env σ H → T env P → Fits S Z H P D' W → t D' σ H
structure DSs (S : Ent) (X : Cx) (st : List Stmt) (T : Ts) : Prop where
  run : ∀ W, Takes X W → Pas X → ∃ t, PSs X st t ∧ ∀ Z env σ H P D', Rel S Z env σ H → T env P → Fits S Z H P D' W → t D' σ H
section
variable {S : Ent} {X : Cx} {st : Stmt} {rest : List Stmt} {e a b : Expr} {T T2 B : Ts} {Te : Tm} {A : Tt} {pos : Pos}
def wSkip : Ts := fun env P => P.nx env
def wSeq (T T2 : Ts) : Ts := fun env P => T env { P with nx := fun env1 => T2 env1 P }
theorem dss_nil : DSs S X [] wSkip := ⟨fun W tk pa => ⟨_, pss_nil, fun Z env σ H P D' R hT f => f.nx Z env σ H R .refl hT⟩⟩
theorem dss_one (h : DS S X st T) : DSs S X [st] T := ⟨fun W tk pa => by
  obtain ⟨t, p, q⟩ := h.run W tk pa
  exact ⟨t, pss_one p, q⟩⟩
theorem dss_cons (h : DS S X st T) (h2 : DSs S X rest T2) : DSs S X (st :: rest) (wSeq T T2) := ⟨fun W tk pa => by
  obtain ⟨t, p, q⟩ := h.run W tk pa
  obtain ⟨t2, p2, q2⟩ := h2.run W tk pa
  exact ⟨_, pss_cons p p2, fun Z env σ H P D' R hT f => q Z env σ H _ { D' with nx := t2 D' } R hT ⟨fun Z' e s H' R' v hn => q2 Z' e s H' P D' R' hn (f.on v), f.rt, f.bk, f.ct, f.ex, f.rf⟩⟩⟩
theorem ds_pass : DS S X (.Pass pos) wSkip := ⟨fun W tk pa => ⟨_, ps_pass, fun Z env σ H P D' R hT f => f.nx Z env σ H R .refl hT⟩⟩
def wBrk : Ts := fun env P => P.bk env
theorem ds_brk : DS S X (.Break pos) wBrk := ⟨fun W tk pa => ⟨_, ps_break, fun Z env σ H P D' R hT f => f.bk Z env σ H R .refl hT⟩⟩
def wCnt : Ts := fun env P => P.ct env
theorem ds_cnt : DS S X (.Continue pos) wCnt := ⟨fun W tk pa => ⟨_, ps_continue, fun Z env σ H P D' R hT f => f.ct Z env σ H R .refl hT⟩⟩
def wNever : Ts := fun _ _ => False
theorem ds_never : DS S X st wNever := ⟨fun W tk pa => ⟨_, ps_never, fun Z env σ H P D' R hT f => hT.elim⟩⟩
def wRet (T : Tm) : Ts := fun env P => T env (fun d env1 => P.rt d env1) P.ex
theorem ds_ret (h : DE S X e Te) : DS S X (.Return (some e) pos) (wRet Te) := ⟨fun W tk pa => by
  obtain ⟨t, p, q⟩ := h.run W tk
  exact ⟨_, ps_ret p, fun Z env σ H P D' R hT f => q Z env σ H _ _ _ R hT (fun Z1 env1 v d H1 R1 t1 r1 h1 => f.rt Z1 env1 σ v d H1 R1 (R.vle t1) r1 h1) ((f.ex σ).ok R)⟩⟩
/-- return of a new list -/
def wRetF (T : Tf) : Ts := fun env P => T env (fun x env1 => P.rf x env1) P.ex
theorem ds_retF {Tn : Tf} (h : DF S X e Tn) : DS S X (.Return (some e) pos) (wRetF Tn) := ⟨fun W tk pa => by
  obtain ⟨t, p, q⟩ := h.run W tk
  exact ⟨_, ps_ret p, fun Z env σ H P D' R hT f => q Z env σ H _ _ _ R hT (fun Z1 env1 a x H1 R1 t1 sp nb _ oa h1 => f.rf Z1 env1 σ a x H1 R1 (R.vle t1) sp nb oa h1) ((f.ex σ).ok R)⟩⟩
def wRetN : Ts := fun env P => P.rt .non env
theorem ds_retN : DS S X (.Return none pos) wRetN := ⟨fun W tk pa => ⟨_, ps_retN, fun Z env σ H P D' R hT f => f.rt Z env σ .non .non H R .refl .non hT⟩⟩
def wDrop (T : Tm) : Ts := fun env P => T env (fun _ env1 => P.nx env1) P.ex
theorem ds_expr (h : DE S X e Te) (hs : swapsWith e none pos.line X.env = pure false := by rfl) : DS S X (.Expr e pos) (wDrop Te) := ⟨fun W tk pa => by
  obtain ⟨t, p, q⟩ := h.run W tk
  exact ⟨_, ps_expr p hs, fun Z env σ H P D' R hT f => q Z env σ H _ _ _ R hT (fun Z1 env1 v d H1 R1 t1 r1 h1 => f.nx Z1 env1 σ H1 R1 (R.vle t1) h1) ((f.ex σ).ok R)⟩⟩
def wIfS (A : Tt) (T T2 : Ts) : Ts := fun env P => A env (fun k env1 => if k = true then T env1 P else T2 env1 P) P.ex
theorem ds_if {c : Expr} {sa sb : List Stmt} (hc : DT S X c A) (h : DSs S X sa T) (h2 : DSs S X sb T2) : DS S X (.If c sa sb pos) (wIfS A T T2) := ⟨fun W tk pa => by
  obtain ⟨tc, pc, qc⟩ := hc.run W tk
  obtain ⟨t, p, q⟩ := h.run W tk pa
  obtain ⟨t2, p2, q2⟩ := h2.run W tk pa
  refine ⟨_, ps_if pc p p2, fun Z env σ H P D' R hT f => ?_⟩
  refine qc Z env σ H _ _ _ R hT (fun Z1 env1 k H1 R1 t1 h1 => ?_) ((f.ex σ).ok R)
  cases k with
  | true =>
    refine iteT ?_
    rw [if_pos rfl] at h1
    exact q Z1 env1 σ H1 P D' R1 h1 (f.on (R.vle t1))
  | false =>
    refine iteF ?_
    rw [if_neg Bool.false_ne_true] at h1
    exact q2 Z1 env1 σ H1 P D' R1 h1 (f.on (R.vle t1))⟩
/-! ### assignments -/
def wAsg (T : Tm) (g : Tg) : Ts := fun env P => T env (fun d env1 => g d env1 P.nx) P.ex
theorem ds_set (i : Nat) {x : Str} {p' : Pos} (hN : X.N.Nodup) (h : DE S X e Te) (hi : X.N[i]? = some x := by rfl) (hx : Loc X.env.scope x := by first | exact Or.inl rfl | exact Or.inr rfl) (hs : swapsWith e (some (.Name x p')) pos.line X.env = pure false := by rfl)
    (hf : X.fn x = true ∨ X.env.scope.names.lookup x = some .local := by first | exact .inl rfl | exact .inr rfl) : DS S X (.Assign [.Name x p'] e pos) (wAsg Te (gN i)) := ⟨fun W tk pa => by
  obtain ⟨t, p, q⟩ := h.run W tk
  exact ⟨_, ps_set hN hi hx p hs hf, fun Z env σ H P D' R hT f => q Z env σ H _ _ _ R hT (fun Z1 env1 v d H1 R1 t1 r1 h1 => f.nx Z1 _ _ H1 (R1.put r1) (R.vle t1) h1) ((f.ex σ).ok R)⟩⟩
/-- a target of any form (a tuple of names) -/
theorem ds_asg {tg : Expr} {ix : List Nat} {g : Tg} (h : DE S X e Te) (hg : DG S X tg ix g) (hs : swapsWithSole [tg] e pos.line X.env = pure false := by rfl) (hw : swappedStores [tg] e X.env = pure none := by rfl)
    (h1 : (assignEach [tg] X.env).map (·.2) = [assign tg X.env] := by rfl) : DS S X (.Assign [tg] e pos) (wAsg Te g) := ⟨fun W tk pa => by
  obtain ⟨t, p, q⟩ := h.run W tk
  obtain ⟨tg', pg, qg⟩ := hg.run
  exact ⟨_, ps_asg p pg hs hw h1, fun Z env σ H P D' R hT f => q Z env σ H _ _ _ R hT (fun Z1 env1 v d H1 R1 t1 r1 h1 =>
    qg Z1 env1 σ H1 v d _ _ R1 r1 h1 fun env2 σ2 R2 _ h2 => f.nx Z1 env2 σ2 H1 R2 (R.vle t1) h2) ((f.ex σ).ok R)⟩⟩
/-- a new list of the def's own -/
def wOwn (T : Tf) (i : Nat) : Ts := fun env P => T env (fun x env1 => P.nx (env1.set i x)) P.ex
theorem ds_own (i : Nat) {x : Str} {p' : Pos} {Tn : Tf} (hN : X.N.Nodup) (h : DF S X e Tn) (hi : X.N[i]? = some x := by rfl) (hx : Loc X.env.scope x := by first | exact Or.inl rfl | exact Or.inr rfl) (hs : swapsWith e (some (.Name x p')) pos.line X.env = pure false := by rfl)
    (hf : X.fn x = true ∨ X.env.scope.names.lookup x = some .local := by first | exact .inl rfl | exact .inr rfl) : DS S X (.Assign [.Name x p'] e pos) (wOwn Tn i) := ⟨fun W tk pa => by
  obtain ⟨t, p, q⟩ := h.run W tk
  exact ⟨_, ps_set hN hi hx p hs hf, fun Z env σ H P D' R hT f => q Z env σ H _ _ _ R hT (fun Z1 env1 a y H1 R1 t1 sp nb hy oa h1 =>
    f.nx Z1 _ _ H1 (R1.putOwn hy sp.ino sp.nh sp.ne oa sp.no nb) (R.vle t1) h1) ((f.ex σ).ok R)⟩⟩
/-- y = [..] of one line -/
theorem ds_ownLc (i : Nat) {y : Str} {py : Pos} {elt tg iter : Expr} {ifs : List Expr} {scope : Scope} {own : List (Str × Nat)} {spos : Pos} {Tt' : Ti} {g : Tg} {ix ws : List Nat} (hc : X.calm = true) (hN : X.N.Nodup)
    (hi : DI S Mv X tg iter Tt') (ok : BlkOk X.N X.env.scope scope own)
    (hg : ∀ (s : Shared) (H : Hp) (C : Addr) (cl : List (Str × Addr)) (fp : List Addr), DG S (X.blk s H scope (compEnvC scope cl C X.env) fp) tg ix g)
    (ht : ∀ (s : Shared) (H : Hp) (C : Addr) (cl : List (Str × Addr)) (fp : List Addr), DIf S (X.blk s H scope (compEnvC scope cl C X.env) fp) ifs A)
    (he : ∀ (s : Shared) (H : Hp) (C : Addr) (cl : List (Str × Addr)) (fp : List Addr), DE S (X.blk s H scope (compEnvC scope cl C X.env) fp) elt Te)
    (hsw : swapsWith (.ListComp elt [⟨tg, iter, ifs, 0⟩] scope pos) (some (.Name y py)) spos.line X.env = pure true) (hy : X.N[i]? = some y := by rfl) (hyl : X.env.scope.names.lookup y = some .local := by rfl)
    (hw : own.map (·.2) = ws := by rfl) (hix : ∀ i ∈ ix, i ∈ ws := by decide) (hs : ∀ x, foldedSetIterable iter X.env x = pure x := by intro _; rfl) :
    DS S X (.Assign [.Name y py] (.ListComp elt [⟨tg, iter, ifs, 0⟩] scope pos) spos) (wOwn (wLc Tt' g A Te ws) i) := ⟨fun W tk pa => by
  subst hw
  obtain ⟨wi, pi, qi⟩ := hi.run W tk
  let gt : TG := fun v σ H K' => ∀ s0 H0 C cl fp, Classical.choose (hg s0 H0 C cl fp).run v σ H K'
  have pg : ∀ s0 H0 C cl fp, PG (X.blk s0 H0 scope (compEnvC scope cl C X.env) fp) tg gt := fun s0 H0 C cl fp =>
    ⟨fun pins s σ H v u Q I r h => (Classical.choose_spec (hg s0 H0 C cl fp).run).1.run pins s σ H v u Q I r (h s0 H0 C cl fp)⟩
  refine ⟨_, ps_setLc hc hN hy hyl hsw pi ok pg (fun s H C cl fp => (ht s H C cl fp).sem W0 takes0) (fun s H C cl fp => (he s H C cl fp).sem takes0) hs, fun Z env σ H P D' R hT f => ?_⟩
  refine qi Z env σ H _ _ _ R hT (fun Z1 env1 J items H1 R1 t1 y h1 D0 hD => ?_) ((f.ex σ).ok R)
  obtain ⟨hz, hgo⟩ := h1
  refine lc_turns hix (fun Z env σ H v d K K' R r hk kk s0 H0 C cl fp => (Classical.choose_spec (hg s0 H0 C cl fp).run).2 Z env σ H v d K K' R r hk kk) R1 y hD hz hgo fun Z' e2 vs acc H' R' t' hD' rl hq => ?_
  obtain ⟨R2, sp⟩ := R'.release t'.bb
  have t2 : Tr Z1 H1 ⟨Z'.O, Z'.h, Z1.B⟩ H' := ⟨t'.keep, t'.osub, t'.hh, t'.hz, rfl⟩
  have R3 := R1.back (R1.vle t2) R2
  have sb := sp.back (env := env1)
  exact f.nx _ _ _ H' (R3.putOwn (x := .own D0 acc) rfl sb.ino sb.nh sb.ne ⟨rfl, vs, hD', rl⟩ sb.no fun hb => (R1.oin D0 (R1.res D0 hb).ino) hD) ((R.vle t1).trans (R1.vle t2)) (hq D0)⟩
/-! ### two at once -/
/-- a result for a slot: a value, or a list of one's own -/
def SlV (S : Ent) (Z : Zs) (env : Env) (σ : L2.St) (H : Hp) (v : V) : Sl → Prop
  | .val d => RS S.G Z H v d
  | x => x.owns = true ∧ ∃ a, v = .ref a ∧ Spare S Z env σ a ∧ a ∉ Z.B ∧ OwnAt S Z H a x
structure DO (S : Ent) (X : Cx) (e : Expr) (T : Tf) : Prop where
  run : ∀ W, Takes X W → ∃ t, PE X e t ∧ ∀ Z env σ H Q E Q', Rel S Z env σ H → T env Q E →
    (∀ Z' env' v x H', Rel S Z' env' σ H' → Tr Z H Z' H' → SlV S Z' env' σ H' v x → Q x env' → Q' v H') → ExOk S Z H σ E W → t σ H Q'
def wV (T : Tm) : Tf := fun env Q E => T env (fun d env1 => Q (.val d) env1) E
theorem do_v (h : DE S X e Te) : DO S X e (wV Te) := ⟨fun W tk => by
  obtain ⟨t, p, q⟩ := h.run W tk
  exact ⟨t, p, fun Z env σ H Q E Q' R hT k x => q Z env σ H _ E _ R hT (fun Z1 env1 v d H1 R1 t1 r1 h1 => k Z1 env1 v (.val d) H1 R1 t1 r1 h1) x⟩⟩
theorem do_f {Tn : Tf} (h : DF S X e Tn) : DO S X e Tn := ⟨fun W tk => by
  obtain ⟨t, p, q⟩ := h.run W tk
  refine ⟨t, p, fun Z env σ H Q E Q' R hT k x => q Z env σ H _ E _ R hT (fun Z1 env1 a y H1 R1 t1 sp nb hy oa h1 => k Z1 env1 _ y H1 R1 t1 ?_ h1) x⟩
  cases y with
  | no => cases hy
  | pin _ _ _ => cases hy
  | val _ => cases hy
  | own _ _ => exact ⟨rfl, a, rfl, sp, nb, oa⟩
  | ownd _ _ => exact ⟨rfl, a, rfl, sp, nb, oa⟩⟩
/-- a row of such results, stored one after another into different slots -/
def PutAll (S : Ent) (K : Env → Prop) (D' : L2.St → Hp → Prop) : List Nat → List V → Zs → Env → L2.St → Hp → Prop := fun _ _ _ _ _ _ => True
theorem SlV.put {Z : Zs} {env : Env} {σ : L2.St} {H : Hp} {v : V} {x : Sl} {i : Nat} (R : Rel S Z env σ H) (h : SlV S Z env σ H v x) : Rel S Z (env.set i x) (σ.set i (some v)) H := by
  cases x with
  | val d => exact R.put h
  | no => cases h.1
  | pin _ _ _ => cases h.1
  | own _ xs =>
    obtain ⟨hy, a, rfl, sp, nb, oa⟩ := h
    exact R.putOwn hy sp.ino sp.nh sp.ne oa sp.no nb
  | ownd _ xs =>
    obtain ⟨hy, a, rfl, sp, nb, oa⟩ := h
    exact R.putOwn hy sp.ino sp.nh sp.ne oa sp.no nb
/-- the second result, the first one kept apart meanwhile -/
theorem pair_read {ta tb : TE} {W : WX} {Ta Tb : Tf}
    (ra : ∀ Z env σ H Q E Q', Rel S Z env σ H → Ta env Q E → (∀ Z' env' v x H', Rel S Z' env' σ H' → Tr Z H Z' H' → SlV S Z' env' σ H' v x → Q x env' → Q' v H') → ExOk S Z H σ E W → ta σ H Q')
    (rb : ∀ Z env σ H Q E Q', Rel S Z env σ H → Tb env Q E → (∀ Z' env' v x H', Rel S Z' env' σ H' → Tr Z H Z' H' → SlV S Z' env' σ H' v x → Q x env' → Q' v H') → ExOk S Z H σ E W → tb σ H Q')
    {Z : Zs} {env : Env} {σ : L2.St} {H : Hp} {E : Ex} {K : Sl → Sl → Env → Prop} {K' : V → V → Hp → Prop} (R : Rel S Z env σ H) (x : ExOk S Z H σ E W)
    (hT : Ta env (fun x env1 => Tb env1 (fun y env2 => K x y env2) E) E) (i j : Nat)
    (k : ∀ Z' env' v w x y H', Rel S Z' env' σ H' → Vle Z H Z' H' → Rel S Z' ((env'.set i x).set j y) ((σ.set i (some v)).set j (some w)) H' → K x y env' → K' v w H') :
    ta σ H fun v H1 => tb σ H1 fun w H2 => K' v w H2 := by
  refine ra Z env σ H _ E _ R hT (fun Z1 env1 v x1 H1 R1 t1 s1 h1 => ?_) x
  have own : ∀ a, v = .ref a → x1.owns = true → Spare S Z1 env1 σ a → a ∉ Z1.B → OwnAt S Z1 H1 a x1 → tb σ H1 fun w H2 => K' v w H2 := fun a ev hy sp nb oa => by
    subst ev
    have Rr := R1.reserve sp
    refine rb ⟨Z1.O, Z1.h, a :: Z1.B⟩ env1 σ H1 _ E _ Rr h1 (fun Z2 env2 w y H2 R2 t2 s2 h2 => ?_) (fun Z3 e3 cls dd er H3 R3 t3 eo h3 => x ⟨Z3.O, Z3.h, Z1.B⟩ e3 cls dd er H3 (R3.release t3.bb).1 (Tr.trans R1 t1 ⟨t3.keep, t3.osub, t3.hh, t3.hz, rfl⟩) eo h3)
    obtain ⟨R3, sp3⟩ := R2.release t2.bb
    have t2' : Tr Z1 H1 ⟨Z2.O, Z2.h, Z1.B⟩ H2 := ⟨t2.keep, t2.osub, t2.hh, t2.hz, rfl⟩
    have nota : ∀ c, c ∉ Z2.B → c ≠ a := fun c hc z => hc (by rw [z, t2.bb]; exact List.mem_cons_self)
    have nb2 : ∀ c, c ∉ Z2.B → c ∉ Z1.B := fun c hc z => hc (by rw [t2.bb]; exact List.mem_cons_of_mem _ z)
    have Hs : ∀ o, H1 a = some o → NT o → H2 a = some o := fun o q n => (t2.keep a o q sp.nh).get n
    have oa2 : OwnAt S ⟨Z2.O, Z2.h, Z1.B⟩ H2 a x1 := by
      cases x1 with
      | no => exact oa.elim
      | pin _ _ _ => exact oa.elim
      | val _ => exact oa.elim
      | own _ xs =>
        obtain ⟨ea, vs, q1, q2⟩ := oa
        exact ⟨ea, vs, Hs _ q1 (fun _ z => by cases z), (R1.vle t2').repL q2⟩
      | ownd _ xs =>
        obtain ⟨ea, vs, ds, q1, q2⟩ := oa
        refine ⟨ea, vs, ds, (R1.vle t2').repL q1, ?_⟩
        rcases q2 with ⟨hk, e1, e2⟩ | ⟨hk, e1, e2⟩
        · exact .inl ⟨hk, Hs _ e1 (fun _ z => by cases z), e2⟩
        · exact .inr ⟨hk, Hs _ e1 (fun _ z => by cases z), e2⟩
    have v2 : Vle Z H ⟨Z2.O, Z2.h, Z1.B⟩ H2 := (R.vle t1).trans (R1.vle t2')
    -- the second first (they are different slots), then the first
    have put2 : ∀ (e' : Env) (s' : L2.St), Rel S ⟨Z2.O, Z2.h, Z1.B⟩ e' s' H2 → (∀ c, Spare S ⟨Z2.O, Z2.h, Z1.B⟩ env2 σ c → c ≠ a → Spare S ⟨Z2.O, Z2.h, Z1.B⟩ e' s' c) → Rel S ⟨Z2.O, Z2.h, Z1.B⟩ (e'.set j y) (s'.set j (some w)) H2 := fun e' s' Re hsp => by
      cases y with
      | val d => exact Re.put s2
      | no => cases s2.1
      | pin _ _ _ => cases s2.1
      | own _ ys =>
        obtain ⟨hy2, c, rfl, spc, nbc, oc⟩ := s2
        have := hsp c ⟨spc.ino, spc.nh, spc.ne, spc.no⟩ (nota c nbc)
        exact Re.putOwn hy2 this.ino this.nh this.ne oc this.no (nb2 c nbc)
      | ownd _ ys =>
        obtain ⟨hy2, c, rfl, spc, nbc, oc⟩ := s2
        have := hsp c ⟨spc.ino, spc.nh, spc.ne, spc.no⟩ (nota c nbc)
        exact Re.putOwn hy2 this.ino this.nh this.ne oc this.no (nb2 c nbc)
    refine k _ env2 _ w x1 y H2 R3 v2 (put2 _ _ (R3.putOwn hy sp3.ino sp3.nh sp3.ne oa2 sp3.no nb) fun c spc hca => ⟨spc.ino, spc.nh, spc.ne, fun j' z ez oz sz => ?_⟩) h2
    by_cases hj : i = j'
    · subst hj
      by_cases hi : i < σ.length
      · rw [List.getElem?_set_self hi] at sz; cases sz; exact hca rfl
      · rw [List.getElem?_eq_none (by simpa using hi)] at sz; cases sz
    · rw [List.getElem?_set_ne hj] at ez sz
      exact spc.no j' z ez oz sz
  cases x1 with
  | val d =>
    refine rb Z1 env1 σ H1 _ E _ R1 h1 (fun Z2 env2 w y H2 R2 t2 s2 h2 => ?_) (x.on R1 t1)
    have s1' : RS S.G Z2 H2 v d := RS.on s1 R1 t2
    have Rp := R2.put (i := i) s1'
    have Rq : Rel S Z2 ((env2.set i (.val d)).set j y) ((σ.set i (some v)).set j (some w)) H2 := by
      cases y with
      | val d' => exact Rp.put s2
      | no => cases s2.1
      | pin _ _ _ => cases s2.1
      | own _ ys =>
        obtain ⟨hy2, c, rfl, spc, nbc, oc⟩ := s2
        exact Rp.putOwn hy2 spc.ino spc.nh spc.ne oc (spc.no.set rfl) nbc
      | ownd _ ys =>
        obtain ⟨hy2, c, rfl, spc, nbc, oc⟩ := s2
        exact Rp.putOwn hy2 spc.ino spc.nh spc.ne oc (spc.no.set rfl) nbc
    exact k Z2 env2 v w _ y H2 R2 ((R.vle t1).trans (R1.vle t2)) Rq h2
  | no => cases s1.1
  | pin _ _ _ => cases s1.1
  | own _ xs =>
    obtain ⟨hy, a, rfl, sp, nb, oa⟩ := s1
    exact own a rfl hy sp nb oa
  | ownd _ xs =>
    obtain ⟨hy, a, rfl, sp, nb, oa⟩ := s1
    exact own a rfl hy sp nb oa
def wPar (Ta Tb : Tf) (i j : Nat) : Ts := fun env P => Ta env (fun x env1 => Tb env1 (fun y env2 => P.nx ((env2.set i x).set j y)) P.ex) P.ex
theorem ds_par (i j : Nat) {x y : Str} {px py pt : Pos} {kt k2 pt2} {Ta Tb : Tf} (hc : X.calm = true) (hN : X.N.Nodup) (ha : DO S X a Ta) (hb : DO S X b Tb) (hw : swappedStores [.Tuple [.Name x px, .Name y py] kt pt] (.Tuple [a, b] k2 pt2) X.env = pure (some [x, y]))
    (hi : X.N[i]? = some x := by rfl) (hj : X.N[j]? = some y := by rfl) (hij : i ≠ j := by decide) (hx : X.env.scope.names.lookup x = some .local := by rfl) (hy : X.env.scope.names.lookup y = some .local := by rfl)
    (hs : swapsWithSole [.Tuple [.Name x px, .Name y py] kt pt] (.Tuple [a, b] k2 pt2) pos.line X.env = pure false := by rfl)
    (hst : starEach [a, b] X.env = (false, eval a X.env) :: starEach [b] X.env := by rfl) (hst2 : starEach [b] X.env = (false, eval b X.env) :: starEach [] X.env := by rfl) :
    DS S X (.Assign [.Tuple [.Name x px, .Name y py] kt pt] (.Tuple [a, b] k2 pt2) pos) (wPar Ta Tb i j) := ⟨fun W tk pa => by
  obtain ⟨ta, pa', ra⟩ := ha.run W tk
  obtain ⟨tb, pb, rb⟩ := hb.run W tk
  refine ⟨_, ps_par hc hN hi hj hij hx hy (pa_cons pa' (pa_cons pb pa_nil hst2) hst) hw hs, fun Z env σ H P D' R hT f => ?_⟩
  exact pair_read (K' := fun v w H2 => ∃ v1 w1, [v, w] = [v1, w1] ∧ D'.nx ((σ.set i (some v1)).set j (some w1)) H2) ra rb R ((f.ex σ).ok R) hT i j
    (fun Z' env' v w x1 y1 H' R' vl Rij h2 => ⟨v, w, rfl, f.nx Z' _ _ H' Rij vl h2⟩)⟩
/-! ### loops -/
/-- a for's turns -/
def forGo (g : Tg) (B : Ts) (P : Post) : List D → Env → Prop
  | [], env => P.nx env
  | x :: xs, env => g x env fun env1 => B env1 { P with nx := fun env2 => forGo g B P xs env2, ct := fun env2 => forGo g B P xs env2, bk := P.nx }
def wFor (T : Ti) (g : Tg) (B : Ts) : Ts := fun env P => T env (fun xs env1 => forGo g B P xs env1) P.ex
theorem ds_for {tg iter : Expr} {body : List Stmt} {T : Ti} {g : Tg} {ix : List Nat} (hc : X.calm = true) (hi : DI S Vle X tg iter T) (hg : DG S X tg ix g) (hb : DSs S X body B) (hs : ∀ x, foldedSetIterable iter X.env x = pure x := by intro _; rfl) :
    DS S X (.For tg iter body [] pos) (wFor T g B) := ⟨fun W tk pa => by
  obtain ⟨wi, pi, qi⟩ := hi.run W tk
  obtain ⟨tg', pg, qg⟩ := hg.run
  obtain ⟨tb, pb, qb⟩ := hb.run W tk pa
  refine ⟨_, ps_for pa hc pi pg pb hs, fun Z env σ H P D' R hT f => ?_⟩
  refine qi Z env σ H _ _ _ R hT (fun Z1 env1 J items H1 R1 t1 y h1 => ?_) ((f.ex σ).ok R)
  have f1 := f.on (R.vle t1)
  let Inv : Nat → L2.St → Hp → Prop := fun i σ H => ∃ Z' env', Rel S Z' env' σ H ∧ Vle Z1 H1 Z' H ∧ forGo g B P (items.drop i) env'
  refine ⟨fun i m σ H => m = items.length - i ∧ i ≤ items.length ∧ Inv i σ H, ⟨_, rfl, Nat.zero_le _, Z1, env1, R1, .refl, h1⟩, ?_⟩
  rintro i m σ2 H2 ⟨rfl, hi', Z2, env2, R2, v2, hgo⟩
  by_cases hlt : i < items.length
  · refine .inr ⟨y.go Z2 H2 i v2 hlt, Inv (i + 1), fun σ' H' h => ⟨items.length - (i + 1), by omega, rfl, hlt, h⟩, fun x H3 hy => ?_⟩
    obtain ⟨sm, hx⟩ := y.yld Z2 H2 i x H3 v2 R2.oin hlt hy
    rw [List.drop_eq_getElem_cons hlt] at hgo
    have R3 := R2.grow sm
    have v3 : Vle Z1 H1 Z2 H3 := v2.trans (R2.vle (.alloc sm))
    refine qg Z2 env2 σ2 H3 x _ _ _ R3 (hx _ (List.getElem?_eq_getElem hlt)) hgo fun env4 σ4 R4 _ h4 => ?_
    have fb := f1.on v3
    exact qb Z2 env4 σ4 H3 _ { D' with nx := Inv (i + 1), ct := Inv (i + 1), bk := D'.nx } R4 h4
      ⟨fun Z5 e5 s5 H5 R5 v5 h5 => ⟨Z5, e5, R5, v3.trans v5, h5⟩, fb.rt, fb.nx, fun Z5 e5 s5 H5 R5 v5 h5 => ⟨Z5, e5, R5, v3.trans v5, h5⟩, fb.ex, fb.rf⟩
  · have e : i = items.length := by omega
    subst e
    rw [List.drop_length] at hgo
    exact .inl ⟨y.stop Z2 H2 v2, f1.nx Z2 env2 σ2 H2 R2 v2 hgo⟩⟩
/-- a while's turns, at most n -/
def whGo (A : Tt) (B : Ts) (P : Post) : Nat → Env → Prop
  | 0, _ => False
  | n + 1, env => A env (fun k env1 => if k = true then B env1 { P with nx := fun env2 => whGo A B P n env2, ct := fun env2 => whGo A B P n env2, bk := P.nx } else P.nx env1) P.ex
def wWh (A : Tt) (B : Ts) : Ts := fun env P => ∃ n, whGo A B P n env
theorem ds_while {c : Expr} {body : List Stmt} (hc : DT S X c A) (hb : DSs S X body B) : DS S X (.While c body [] pos) (wWh A B) := ⟨fun W tk pa => by
  obtain ⟨tc, pc, qc⟩ := hc.run W tk
  obtain ⟨tb, pb, qb⟩ := hb.run W tk pa
  refine ⟨_, ps_while pa pc pb, fun Z env σ H P D' R hT f => ?_⟩
  obtain ⟨n, hn⟩ := hT
  let Inv : Nat → L2.St → Hp → Prop := fun m σ' H' => ∃ Z' env', Rel S Z' env' σ' H' ∧ Vle Z H Z' H' ∧ whGo A B P m env'
  refine ⟨Inv, ⟨n, Z, env, R, .refl, hn⟩, ?_⟩
  rintro m σ2 H2 ⟨Z2, env2, R2, v2, hgo⟩
  have f2 := f.on v2
  cases m with
  | zero => exact hgo.elim
  | succ m =>
    refine qc Z2 env2 σ2 H2 _ _ _ R2 hgo (fun Z3 env3 k H3 R3 t3 h3 => ?_) ((f2.ex σ2).ok R2)
    have v3 : Vle Z H Z3 H3 := v2.trans (R2.vle t3)
    have f3 := f.on v3
    cases k with
    | true =>
      refine iteT ?_
      rw [if_pos rfl] at h3
      exact ⟨Inv m, fun σ' H' h => ⟨m, Nat.lt_succ_self m, h⟩, qb Z3 env3 σ2 H3 _ { D' with nx := Inv m, ct := Inv m, bk := D'.nx } R3 h3
        ⟨fun Z5 e5 s5 H5 R5 v5 h5 => ⟨Z5, e5, R5, v3.trans v5, h5⟩, f3.rt, f3.nx, fun Z5 e5 s5 H5 R5 v5 h5 => ⟨Z5, e5, R5, v3.trans v5, h5⟩, f3.ex, f3.rf⟩⟩
    | false =>
      refine iteF ?_
      rw [if_neg Bool.false_ne_true] at h3
      exact f3.nx Z3 env3 σ2 H3 R3 .refl h3⟩
/-! ### own lists changed -/
/-- x.append(e) -/
def wApp (i : Nat) (T : Tm) : Ts := fun env P => (∃ a xs, env[i]? = some (.own a xs)) ∧ T env (fun d env1 => ∃ a xs, env1[i]? = some (.own a xs) ∧ xs.length < big ∧ P.nx (env1.set i (.own a (xs ++ [d])))) P.ex
theorem ds_app (i : Nat) {x : Str} {px apos cpos : Pos} (h : DE S X e Te) (hN : X.N[i]? = some x := by rfl) (hv : Vis X.env.scope x := by first | exact Or.inl rfl | exact Or.inr (Or.inl rfl) | exact Or.inr (Or.inr rfl))
    (hbase : attributeBase (.Name x px) "append" X.env (eval (.Name x px) X.env) = eval (.Name x px) X.env := by rfl)
    (hfew : ((backTo cpos (starEach (e :: []) X.env)).all (fun x => !x.1) && (backToKw cpos (keywordEach [] X.env)).all (fun x => x.1.isSome)
      && decide ((e :: []).length + ([] : List Keyword).length + (if ([] : List Keyword).isEmpty then 0 else 1) < 30)) = true := by rfl)
    (hline : (apos.endLine == cpos.line) = true := by rfl) (hst : starEach (e :: []) X.env = (false, eval e X.env) :: starEach [] X.env := by rfl) (hplain : (backTo cpos (starEach [] X.env)).any (·.1) = false := by rfl)
    (hs : swapsWith (.Call (.Attribute (.Name x px) "append" apos) [e] [] cpos) none pos.line X.env = pure false := by rfl)
    (hd : (x == ("__debug__" : Str)) = false := by decide) (hcd : (x == ("__classdict__" : Str)) = false := by decide) :
    DS S X (.Expr (.Call (.Attribute (.Name x px) "append" apos) [e] [] cpos) pos) (wApp i Te) := ⟨fun W tk pa => by
  obtain ⟨t, p, q⟩ := h.run W tk
  refine ⟨_, ps_expr (pe_bm PySem.F.plainAttrs_list PySem.F.slot_list_append PySem.F.type_list_append mt_append (pe_var hN hv hd hcd) (pa_cons p pa_nil hst) hbase hfew hline hst hplain) hs, fun Z env σ H P D' R hT f => ?_⟩
  obtain ⟨⟨a, xs0, e0⟩, hT⟩ := hT
  obtain ⟨vs0, es, a1, a2, a3, a4, a5⟩ := R.slots i _ e0
  refine ⟨_, es, .inl ⟨rfl, _, SqL.of a4⟩, ?_⟩
  refine q Z env σ H _ _ _ R hT (fun Z1 env1 v d H1 R1 t1 r1 h1 => ?_) ((f.ex σ).ok R)
  obtain ⟨b, xs, e1, hz, h1⟩ := h1
  obtain ⟨vs, es1, b1, b2, b3, b4, b5⟩ := R1.slots i _ e1
  rw [es] at es1; cases es1
  refine ⟨a, vs, v, rfl, rfl, b4, by rw [b5.length, sizeLine_eq]; unfold big at hz; omega, ?_⟩
  have R2 := R1.write (y := .own a (xs ++ [d])) (o := .lst (vs ++ [v])) e1 rfl rfl es ⟨rfl, _, upd_same, by rw [vis_upd_in b1]; exact b5.append (.cons r1 .nil)⟩
  exact f.nx Z1 _ σ _ R2 ((R.vle t1).trans ⟨fun b o e => by rw [vis_upd_in b1]; exact e, fun _ h => h⟩) h1⟩
/-- x.extend(a list) -/
def wExt (i : Nat) (T : Tm) : Ts := fun env P => (∃ a xs, env[i]? = some (.own a xs)) ∧ T env (fun d env1 => ∃ a xs ys, env1[i]? = some (.own a xs) ∧ d = .lst ys ∧ xs.length + ys.length ≤ big ∧ P.nx (env1.set i (.own a (xs ++ ys)))) P.ex
theorem ds_ext (i : Nat) {x : Str} {px apos cpos : Pos} (h : DB S X e Te) (hN : X.N[i]? = some x := by rfl) (hv : Vis X.env.scope x := by first | exact Or.inl rfl | exact Or.inr (Or.inl rfl) | exact Or.inr (Or.inr rfl))
    (hbase : attributeBase (.Name x px) "extend" X.env (eval (.Name x px) X.env) = eval (.Name x px) X.env := by rfl)
    (hfew : ((backTo cpos (starEach (e :: []) X.env)).all (fun x => !x.1) && (backToKw cpos (keywordEach [] X.env)).all (fun x => x.1.isSome)
      && decide ((e :: []).length + ([] : List Keyword).length + (if ([] : List Keyword).isEmpty then 0 else 1) < 30)) = true := by rfl)
    (hline : (apos.endLine == cpos.line) = true := by rfl) (hst : starEach (e :: []) X.env = (false, eval e X.env) :: starEach [] X.env := by rfl) (hplain : (backTo cpos (starEach [] X.env)).any (·.1) = false := by rfl)
    (hs : swapsWith (.Call (.Attribute (.Name x px) "extend" apos) [e] [] cpos) none pos.line X.env = pure false := by rfl)
    (hd : (x == ("__debug__" : Str)) = false := by decide) (hcd : (x == ("__classdict__" : Str)) = false := by decide) :
    DS S X (.Expr (.Call (.Attribute (.Name x px) "extend" apos) [e] [] cpos) pos) (wExt i Te) := ⟨fun W tk pa => by
  obtain ⟨t, p, q⟩ := h.run W tk
  refine ⟨_, ps_expr (pe_bm PySem.F.plainAttrs_list PySem.F.slot_list_extend PySem.F.type_list_extend mt_extend (pe_var hN hv hd hcd) (pa_cons p pa_nil hst) hbase hfew hline hst hplain) hs, fun Z env σ H P D' R hT f => ?_⟩
  obtain ⟨⟨a, xs0, e0⟩, hT⟩ := hT
  obtain ⟨vs0, es, a1, a2, a3, a4, a5⟩ := R.slots i _ e0
  refine ⟨_, es, .inl ⟨rfl, _, SqL.of a4⟩, ?_⟩
  refine q Z env σ H _ _ _ R hT (fun Z1 env1 v d H1 R1 t1 r1 h1 => ?_) ((f.ex σ).ok R)
  obtain ⟨b, xs, ys, e1, rfl, hz, h1⟩ := h1
  obtain ⟨vs, es1, b1, b2, b3, b4, b5⟩ := R1.slots i _ e1
  rw [es] at es1; cases es1
  obtain ⟨c, ws, rfl, ec, rc⟩ := r1.lst
  refine ⟨a, c, vs, ws, rfl, rfl, b4, ec, by rw [b5.length, rc.length]; exact big_line hz, ?_⟩
  have R2 := R1.write (y := .own a (xs ++ ys)) (o := .lst (vs ++ ws)) e1 rfl rfl es ⟨rfl, _, upd_same, by rw [vis_upd_in b1]; exact b5.append rc⟩
  exact f.nx Z1 _ σ _ R2 ((R.vle t1).trans ⟨fun b o e => by rw [vis_upd_in b1]; exact e, fun _ h => h⟩) h1⟩
/-- x[i] = e of an own list -/
def wSetIx (i : Nat) (Te Ti' : Tm) : Ts := fun env P => Te env (fun d env1 => (∃ a xs, env1[i]? = some (.own a xs)) ∧ Ti' env1 (fun k env2 => ∃ a xs n j, env2[i]? = some (.own a xs) ∧ k = .int n ∧ ixN xs.length n = some j ∧ P.nx (env2.set i (.own a (xs.set j d)))) P.ex) P.ex
theorem ds_setix (i : Nat) {x : Str} {px p' : Pos} {ie : Expr} {Tk : Tm} (he : DE S X e Te) (hi : DB S X ie Tk) (hN : X.N[i]? = some x := by rfl) (hv : Vis X.env.scope x := by first | exact Or.inl rfl | exact Or.inr (Or.inl rfl) | exact Or.inr (Or.inr rfl))
    (hs : swapsWithSole [.Subscript (.Name x px) ie p'] e pos.line X.env = pure false := by rfl) (hw : swappedStores [.Subscript (.Name x px) ie p'] e X.env = pure none := by rfl)
    (h1 : (assignEach [.Subscript (.Name x px) ie p'] X.env).map (·.2) = [assign (.Subscript (.Name x px) ie p') X.env] := by rfl)
    (ha : ∀ v, assign (.Subscript (.Name x px) ie p') X.env v = (do
      let ov ← holding [v] (eval (.Name x px) X.env)
      let iv ← holding [v, ov] (eval ie X.env)
      standAt p'
      holding [v, ov, iv] (setItem ov iv v)
      release [v, ov, iv] []) := by intro _; rfl)
    (hd : (x == ("__debug__" : Str)) = false := by decide) (hcd : (x == ("__classdict__" : Str)) = false := by decide) :
    DS S X (.Assign [.Subscript (.Name x px) ie p'] e pos) (wSetIx i Te Tk) := ⟨fun W tk pa => by
  obtain ⟨t, p, q⟩ := he.run W tk
  obtain ⟨tk', pk, qk⟩ := hi.run W tk
  refine ⟨_, ps_asg p (pg_sub (pe_var hN hv hd hcd) pk set_list ha) hs hw h1, fun Z env σ H P D' R hT f => ?_⟩
  refine q Z env σ H _ _ _ R hT (fun Z1 env1 v d H1 R1 t1 r1 h1 => ?_) ((f.ex σ).ok R)
  obtain ⟨⟨a, xs0, e0⟩, h1⟩ := h1
  obtain ⟨vs0, es, a1, a2, a3, a4, a5⟩ := R1.slots i _ e0
  refine ⟨_, es, ?_⟩
  refine qk Z1 env1 σ H1 _ _ _ R1 h1 (fun Z2 env2 w k H2 R2 t2 r2 h2 => ?_) (((f.ex σ).on (R.vle t1)).ok R1)
  obtain ⟨b, xs, n, j, e1, rfl, hj, h2⟩ := h2
  obtain ⟨vs, es1, b1, b2, b3, b4, b5⟩ := R2.slots i _ e1
  rw [es] at es1; cases es1
  refine ⟨a, vs, n, j, rfl, r2.int, b4, by rw [b5.length]; exact hj, ?_⟩
  have R3 := R2.write (y := .own a (xs.set j d)) (o := .lst (vs.set j v)) e1 rfl rfl es ⟨rfl, _, upd_same, by rw [vis_upd_in b1]; exact b5.set (RS.on r1 R1 t2) j⟩
  exact f.nx Z2 _ σ _ R3 (((R.vle t1).trans (R1.vle t2)).trans ⟨fun b o e => by rw [vis_upd_in b1]; exact e, fun _ h => h⟩) h2⟩
/-- x += e -/
def wAug (i : Nat) (T : Tm) (fn : Int → Int → Int) : Ts := fun env P => ∃ n, env[i]? = some (.val (.int n)) ∧ T env (fun d env1 => ∃ m, d = .int m ∧ P.nx (env1.set i (.val (.int (fn n m))))) P.ex
theorem ds_aug (i : Nat) {x : Str} {p' : Pos} {op : Operator} {fn : Int → Int → Int} (ho : PIp X op (ipI fn)) (hN : X.N.Nodup) (h : DE S X e Te) (hi : X.N[i]? = some x := by rfl) (hx : Loc X.env.scope x := by first | exact Or.inl rfl | exact Or.inr rfl)
    (hf : X.fn x = true ∨ X.env.scope.names.lookup x = some .local := by first | exact .inl rfl | exact .inr rfl) : DS S X (.AugAssign (.Name x p') op e pos) (wAug i Te fn) := ⟨fun W tk pa => by
  obtain ⟨t, p, q⟩ := h.run W tk
  refine ⟨_, ps_aug hN hi hx p ho hf, fun Z env σ H P D' R hT f => ?_⟩
  obtain ⟨n, e0, hT⟩ := hT
  obtain ⟨v, es, r⟩ := R.slots i _ e0
  cases r
  refine ⟨_, es, ?_⟩
  refine q Z env σ H _ _ _ R hT (fun Z1 env1 v d H1 R1 t1 r1 h1 => ?_) ((f.ex σ).ok R)
  obtain ⟨m, rfl, h1⟩ := h1
  exact ⟨n, m, rfl, RB.int (.inl r1), f.nx Z1 _ _ H1 (R1.put (.int _)) (R.vle t1) h1⟩⟩
end
/-! ### a def -/
/-- what a body is worth: its slots at the entry, its end -/
def wFn (n : Nat) (B : Ts) : Fn := fun ds Q E => B (ds.map Sl.val ++ List.replicate (n - ds.length) .no) { nx := fun _ => Q .non, rt := fun d _ => Q d, bk := fun _ => False, ct := fun _ => False, ex := fun er _ => E er }
theorem entry_rel {G : Pg} {Z : Zs} {H : Hp} {vs : List V} {ds : List D} {N : List Str} (oin : ∀ a ∈ Z.O, H a ≠ none) (hh : ∀ a, Z.h = some a → HandOk Z.O H a) (r : RepL G (vis Z.O H) Z.h vs ds) (hl : vs.length = ds.length) (tt : LamX.Tabs G.T H) :
    Rel ⟨G, Z, H⟩ ⟨Z.O, Z.h, []⟩ (ds.map Sl.val ++ List.replicate (N.length - ds.length) .no) (L2.start N vs) H := by
  refine ⟨oin, fun _ h => h, hh, rfl, fun b o e _ => .of e, oin, fun a h => .inl h, ?_, fun i x e => ?_, fun i j x y a e1 _ o1 _ _ _ => ?_, fun a ha => absurd ha (by simp), tt, fun a h => .inl h⟩
  · unfold L2.start
    simp [hl]
  · by_cases hi : i < ds.length
    · rw [List.getElem?_append_left (by simpa using hi), List.getElem?_map, List.getElem?_eq_getElem hi] at e
      cases e
      obtain ⟨v, ev, rv⟩ := r.get (List.getElem?_eq_getElem hi)
      refine ⟨v, ?_, rv⟩
      unfold L2.start
      rw [List.getElem?_append_left (by rw [List.length_map]; omega), List.getElem?_map, ev]
      rfl
    · rw [List.getElem?_append_right (by simpa using hi), List.getElem?_replicate] at e
      split at e
      · cases e; trivial
      · cases e
  · by_cases hi : i < ds.length
    · rw [List.getElem?_append_left (by simpa using hi), List.getElem?_map, List.getElem?_eq_getElem hi] at e1
      cases e1; cases o1
    · rw [List.getElem?_append_right (by simpa using hi), List.getElem?_replicate] at e1
      split at e1
      · cases e1; cases o1
      · cases e1
/-- back at the caller: what the def leaves visible is visible there -/
theorem exit_vle {S : Ent} {Z' : Zs} {env : Env} {σ : L2.St} {H' : Hp} (R : Rel S Z' env σ H') : Same (vis Z'.O H') (vis S.Z.O H') := fun b o e => by
  obtain ⟨h1, h2⟩ := vis_some e
  exact vis_out (fun z => h1 (R.sub b z)) h2 (vis_nt e)
theorem exit_hand {S : Ent} {Z' : Zs} {env : Env} {σ : L2.St} {H' : Hp} (R : Rel S Z' env σ H') (hh : ∀ a, S.Z.h = some a → a ∈ S.Z.O) : ∀ a, S.Z.h = some a → HandOk S.Z.O H' a := fun a ha =>
  (R.hnd a (R.hsub.trans ha)).mono (hh a ha) (fun c nc _ z => nc (R.sub c z)) fun b o q _ => q
/-- THE RULE of a def -/
theorem fn_ok {P : Program} {w : World} {G : Pg} {mg : Str → Option Value} {base : Heap} {x qual : Str} {st : Stmt} {f : Addr} {fd : FuncData} {N ps : List Str} {k n : Nat} {B : Ts} (F : Fun G.K x qual st f fd) (Sc : FnScope N ps (defScope st)) (hn : n = ps.length)
    (hbody : ∀ (cdv : Value) (A : Around) (outer : List PySem.Env) (s : Shared) (H : Hp) (E : XK) (S : Ent), S.G = G → Room k (A.deeper (envOfC qual (defScope st) s.heap.objs.size f cdv)) →
      DSs S (cxOf (L2.CX P w) P w G.K mg base N qual (defScope st) f cdv A outer s H E) (defBody st) B) : FnOk P w G.K mg base (L2.CX P w) (k + 1) f fd ps (spD G n (wFn N.length B)) := by
  refine F.okX Sc (fun vs H Q E h => ?_) fun cdv A outer s H vs Q E hr h => ?_
  · obtain ⟨_, _, _, _, hl, _⟩ := h
    rw [hl, hn]
  · obtain ⟨Z, ds, Qd, Ed, hl, hl2, oin, hh, r, tt, hT, kq, ke⟩ := h
    have R := entry_rel (N := N) oin hh r (hl.trans hl2.symm) tt
    obtain ⟨t, p, q⟩ := (hbody cdv A outer s H E ⟨G, Z, H⟩ rfl hr).run (fun cls d _ H => E cls d H) (takes_of rfl rfl rfl rfl) PassesOwn.leaving
    have hin : ∀ a, Z.h = some a → a ∈ Z.O := fun a ha => (hh a ha).1
    refine ⟨t, p, q _ _ _ H _ _ R hT ⟨fun Z' e s H' R' v h => ?_, fun Z' e s v d H' R' vl rv h => ?_, fun _ _ _ _ _ _ h => h.elim, fun _ _ _ _ _ _ h => h.elim, fun σ' Z' e cls dd er H' R' vl eo h => ?_, fun _ _ _ _ _ _ _ _ _ _ _ h => h.elim⟩⟩
    · exact kq _ _ H' R'.frame (exit_hand R' hin) R'.tabs .non h
    · refine kq d v H' R'.frame (exit_hand R' hin) R'.tabs ?_ h
      exact Rep.mono (exit_vle R') (fun a ha => R'.hsub.symm.trans ha) rv
    · refine ke er cls dd H' R'.frame (exit_hand R' hin) R'.tabs ?_ h
      obtain ⟨C, e1, e2, e3⟩ := eo
      exact ⟨C, e1, e2, e3.mono (exit_vle R') fun a ha => R'.hsub.symm.trans ha⟩
end DV

set_option Elab.async false
set_option linter.all false
set_option maxRecDepth 100000
/-! DV7: the hand: its making, a draw; the law's own def. -/
namespace DV
open PySem PySem.Spec PyProof.Rows L2

/-- a draw below m -/
def wDraw : Fn := fun ds Q _ => ∃ m : Int, ds = [.hand, .int m] ∧ 0 < m ∧ m < 1073741824 ∧ ∀ d : Int, 0 ≤ d → d < m → Q (.int d)
def handL (cells : List Int) (p : Nat) (big st cnt : Int) : List D := [.lst (cells.map D.int), .int p, .int big, .int st, .int cnt]
theorem repL_hand {G : Pg} {H : Hp} {hh : Option Addr} {vs : List V} {cells : List Int} {p : Nat} {big st cnt : Int} (r : RepL G H hh vs (handL cells p big st cnt)) : ∃ c, vs = [.ref c, .int p, .int big, .int st, .int cnt] ∧ H c = some (.lst (cells.map V.int)) := by
  cases r with
  | cons r1 r =>
    cases r with
    | cons r2 r =>
      cases r with
      | cons r3 r =>
        cases r with
        | cons r4 r =>
          cases r with
          | cons r5 r =>
            cases r
            cases r1 with
            | lst e rl =>
              cases r2
              cases r3
              cases r4
              cases r5
              rw [rl.ints] at e
              exact ⟨_, rfl, e⟩
section
variable {P : Program} {w : World} {G : Pg} {mg : Str → Option Value} {base : Heap} {x qual : Str} {st : Stmt} {f : Addr} {fd : FuncData} {N ps : List Str} {k : Nat} {B : Ts}
theorem draw_fn (F : Fun G.K x qual st f fd) (Sc : FnScope N ps (defScope st)) (hn : 2 = ps.length) (hN : 2 ≤ N.length)
    (hbody : ∀ (cdv : Value) (A : Around) (outer : List PySem.Env) (s : Shared) (H : Hp) (E : XK) (S : Ent), S.G = G → Room k (A.deeper (envOfC qual (defScope st) s.heap.objs.size f cdv)) →
      DSs S (cxOf (L2.CX P w) P w G.K mg base N qual (defScope st) f cdv A outer s H E) (defBody st) B)
    (hB : ∀ (h : Addr) (cells : List Int) (p : Nat) (big st cnt m : Int), (∀ x ∈ cells, 0 ≤ x) → 0 ≤ big → 0 ≤ st → 0 ≤ cnt → st < 9223372036854775808 → 0 < m → m < 1073741824 → ∀ Q : Post,
      (∀ (k : Int) (p' : Nat) (big' st' cnt' : Int) (r : Env), 0 ≤ k → k < m → 0 ≤ big' → 0 ≤ st' → 0 ≤ cnt' → st' < 9223372036854775808 → Q.rt (.int k) (.own h (handL cells p' big' st' cnt') :: r)) →
      B (.own h (handL cells p big st cnt) :: .val (.int m) :: List.replicate (N.length - 2) .no) Q) : FnOk P w G.K mg base (L2.CX P w) (k + 1) f fd ps (spD G 2 wDraw) := by
  refine F.okX Sc (fun vs H Q E h => ?_) fun cdv A outer s H vs Q E hr h => ?_
  · obtain ⟨_, _, _, _, hl, _⟩ := h
    rw [hl, hn]
  · obtain ⟨Z, ds, Qd, Ed, hl, hl2, oin, hh, r, tt, ⟨m, rfl, m0, m1, hq⟩, kq, ke⟩ := h
    cases r with
    | cons r1 r =>
      cases r with
      | cons r2 r =>
        cases r
        cases r2
        cases r1 with
        | @hand h0 eh =>
          obtain ⟨hin, c, cells, p, bg, st0, cnt, e1, nc, e2, q1, q2, q3, q4, q5⟩ := hh h0 eh
          have hsub : ∀ a, a ∈ Z.O.filter (fun b => decide (b ≠ h0)) ↔ a ∈ Z.O ∧ a ≠ h0 := fun a => by simp
          let S' : Ent := ⟨G, ⟨Z.O.filter fun b => decide (b ≠ h0), none, []⟩, fun b => if b = h0 then none else H b⟩
          have sH : ∀ b, b ≠ h0 → S'.H b = H b := fun b hb => if_neg hb
          have R : Rel S' ⟨Z.O, none, []⟩ (.own h0 (handL cells p bg st0 cnt) :: .val (.int m) :: List.replicate (N.length - 2) .no) (L2.start N [.ref h0, .int m]) H := by
            refine ⟨oin, fun a ha => ((hsub a).mp ha).1, fun a ha => (nomatch ha), rfl, fun b o e _ => ?_, fun a ha => ?_, fun a ha => (nomatch ha), ?_, fun i y e => ?_, fun i j y z a ey ez oy oz _ _ => ?_, fun a ha => absurd ha (by simp), tt, fun a ha => if hz : a = h0 then .inr (if_pos hz) else .inl ((hsub a).mpr ⟨ha, hz⟩)⟩
            · by_cases hb : b = h0
              · subst hb
                have z : (none : Option HO) = some o := (if_pos rfl).symm.trans e
                cases z
              · rw [sH b hb] at e; exact .of e
            · obtain ⟨h1, h2⟩ := (hsub a).mp ha
              rw [sH a h2]; exact oin a h1
            · unfold L2.start
              simp
            · match i with
              | 0 =>
                cases e
                refine ⟨_, rfl, hin, (fun z => nomatch z), if_pos rfl, e1, ?_⟩
                exact .cons (.lst (vis_out nc e2) (RepL.of_ints cells)) (.cons (.int _) (.cons (.int _) (.cons (.int _) (.cons (.int _) .nil))))
              | 1 =>
                cases e
                exact ⟨.int m, rfl, .int m⟩
              | i + 2 =>
                rw [List.getElem?_cons_succ, List.getElem?_cons_succ, List.getElem?_replicate] at e
                split at e
                · cases e; trivial
                · cases e
            · have key : ∀ (i : Nat) (y : Sl), ((.own h0 (handL cells p bg st0 cnt) :: .val (.int m) :: List.replicate (N.length - 2) .no) : Env)[i]? = some y → y.owns = true → i = 0 := fun i y e o => by
                match i with
                | 0 => rfl
                | 1 => cases e; cases o
                | i + 2 =>
                  rw [List.getElem?_cons_succ, List.getElem?_cons_succ, List.getElem?_replicate] at e
                  split at e
                  · cases e; cases o
                  · cases e
              rw [key i y ey oy, key j z ez oz]
          obtain ⟨t, pp, q⟩ := (hbody cdv A outer s H E S' rfl hr).run (fun cls d _ H => E cls d H) (takes_of rfl rfl rfl rfl) PassesOwn.leaving
          refine ⟨t, pp, q _ _ _ H { nx := fun _ => False, rt := fun d env => ∃ k p' big' st' cnt' r, d = .int k ∧ 0 ≤ k ∧ k < m ∧ 0 ≤ big' ∧ 0 ≤ st' ∧ 0 ≤ cnt' ∧ st' < 9223372036854775808 ∧ env = .own h0 (handL cells p' big' st' cnt') :: r, bk := fun _ => False, ct := fun _ => False, ex := fun _ _ => False } _ R
            (hB h0 cells p bg st0 cnt m q1 q2 q3 q4 q5 m0 m1 _ fun k p' b' s' c' r g1 g2 g3 g4 g5 g6 => ⟨k, p', b', s', c', r, rfl, g1, g2, g3, g4, g5, g6, rfl⟩)
            ⟨fun _ _ _ _ _ _ h => h.elim, fun Z' e σ' v d H' R' vl rv h => ?_, fun _ _ _ _ _ _ h => h.elim, fun _ _ _ _ _ _ h => h.elim, fun _ _ _ _ _ _ _ _ _ _ h => h.elim, fun _ _ _ _ _ _ _ _ _ _ _ h => h.elim⟩⟩
          obtain ⟨k', p', b', s', c', rr, rfl, g1, g2, g3, g4, g5, g6, rfl⟩ := h
          obtain ⟨vs', es, o1, o2, o3, o4, o5⟩ := R'.slots 0 _ rfl
          obtain ⟨c2, rfl, ec⟩ := repL_hand o5
          obtain ⟨nc2, ec2⟩ := vis_some ec
          refine kq _ v H' (fun b o e n => ?_) (fun a ha => ?_) R'.tabs (by cases rv; exact .int _) (hq k' g1 g2)
          · have hb : b ≠ h0 := fun z => n (by rw [z]; exact eh)
            exact R'.frame b o (by rw [sH b hb]; exact e) (fun z => nomatch z)
          · rw [eh] at ha; cases ha
            refine ⟨hin, c2, cells, p', b', s', c', o4, fun z => nc2 ?_, ec2, q1, g3, g4, g5, g6⟩
            by_cases hc : c2 = h0
            · rw [hc]; exact o1
            · exact R'.sub c2 ((hsub c2).mpr ⟨z, hc⟩)
theorem sqL_vis {K : PySem.W.Frag} {H : Hp} {a : Addr} {xs : List V} (h : SqL K H a xs) : SqL K (vis [] H) a xs := by
  rcases h with (h | ⟨o, h⟩) | h
  · exact .inl (.inl (vis_out (by simp) h))
  · exact .inl (.inr ⟨o, vis_out (by simp) h⟩)
  · exact .inr h
/-- the hand's making -/
def handSp (G : Pg) : Sp := fun vs H Q _ => ∃ (a : Addr) (ns : List Int), vs = [.ref a] ∧ SqL G.K H a (ns.map V.int) ∧ ns.length ≤ 63 ∧ LamX.Tabs G.T H ∧ ∀ p H', LamX.Tabs G.T H' → HandOk [p] H' p → Q (.ref p) H'
theorem hand_fn (F : Fun G.K x qual st f fd) (Sc : FnScope N ps (defScope st)) (hn : 1 = ps.length) (hN : 1 ≤ N.length)
    (hbody : ∀ (cdv : Value) (A : Around) (outer : List PySem.Env) (s : Shared) (H : Hp) (E : XK) (S : Ent), S.G = G → Room k (A.deeper (envOfC qual (defScope st) s.heap.objs.size f cdv)) →
      DSs S (cxOf (L2.CX P w) P w G.K mg base N qual (defScope st) f cdv A outer s H E) (defBody st) B)
    (hB : ∀ (ns : List Int), ns.length ≤ 63 → ∀ Q : Post,
      (∀ (a : Addr) (cells : List Int) (seed : Int) (r : Env), (∀ x ∈ cells, 0 ≤ x) → 0 ≤ seed → seed < 9223372036854775808 → Q.rf (.own a (handL cells 0 0 seed 0)) r) →
      B (.val (.frz (ns.map D.int)) :: List.replicate (N.length - 1) .no) Q) : FnOk P w G.K mg base (L2.CX P w) (k + 1) f fd ps (handSp G) := by
  refine F.okX Sc (fun vs H Q E h => ?_) fun cdv A outer s H vs Q E hr h => ?_
  · obtain ⟨_, _, rfl, _⟩ := h
    exact hn
  · obtain ⟨a, ns, rfl, sq, hl, tt, kq⟩ := h
    have R : Rel ⟨G, ⟨[], none, []⟩, H⟩ ⟨[], none, []⟩ (.val (.frz (ns.map D.int)) :: List.replicate (N.length - 1) .no) (L2.start N [.ref a]) H := by
      refine ⟨fun _ h => absurd h (by simp), fun _ h => h, fun a ha => (nomatch ha), rfl, fun b o e _ => .of e, fun _ h => absurd h (by simp), fun a ha => (nomatch ha), ?_, fun i y e => ?_, fun i j y z a ey ez oy oz _ _ => ?_, fun a ha => absurd ha (by simp), tt, fun a ha => absurd ha (by simp)⟩
      · unfold L2.start
        simp
      · match i with
        | 0 =>
          cases e
          exact ⟨_, rfl, .frz (sqL_vis sq) (RepL.of_ints ns)⟩
        | i + 1 =>
          rw [List.getElem?_cons_succ, List.getElem?_replicate] at e
          split at e
          · cases e; trivial
          · cases e
      · match i with
        | 0 => cases ey; cases oy
        | i + 1 =>
          rw [List.getElem?_cons_succ, List.getElem?_replicate] at ey
          split at ey
          · cases ey; cases oy
          · cases ey
    obtain ⟨t, pp, q⟩ := (hbody cdv A outer s H E ⟨G, ⟨[], none, []⟩, H⟩ rfl hr).run (fun cls d _ H => E cls d H) (takes_of rfl rfl rfl rfl) PassesOwn.leaving
    refine ⟨t, pp, q _ _ _ H { nx := fun _ => False, rt := fun _ _ => False, bk := fun _ => False, ct := fun _ => False, ex := fun _ _ => False, rf := fun y _ => ∃ a cells seed, y = .own a (handL cells 0 0 seed 0) ∧ (∀ x ∈ cells, 0 ≤ x) ∧ 0 ≤ seed ∧ seed < 9223372036854775808 } _ R
      (hB ns hl _ fun a cells seed r g1 g2 g3 => ⟨a, cells, seed, rfl, g1, g2, g3⟩)
      ⟨fun _ _ _ _ _ _ h => h.elim, fun _ _ _ _ _ _ _ _ _ h => h.elim, fun _ _ _ _ _ _ h => h.elim, fun _ _ _ _ _ _ h => h.elim, fun _ _ _ _ _ _ _ _ _ _ h => h.elim, fun Z' e σ' b y H' R' vl sp nb oa h => ?_⟩⟩
    obtain ⟨b2, cells, seed, rfl, g1, g2, g3⟩ := h
    obtain ⟨rfl, vs, e1, rl⟩ := oa
    obtain ⟨c2, rfl, ec⟩ := repL_hand rl
    obtain ⟨nc2, ec2⟩ := vis_some ec
    refine kq _ H' R'.tabs ⟨List.mem_cons_self, c2, cells, 0, 0, seed, 0, e1, fun z => nc2 ?_, ec2, g1, by omega, g2, by omega, g3⟩
    rw [List.mem_singleton.mp z]
    exact sp.ino
/-- law's promise -/
def lawSp (G : Pg) : Sp := fun vs H Q _ => ∃ (a : Addr) (ns : List Int), vs = [.ref a] ∧ SqL G.K H a (ns.map V.int) ∧ ns.length ≤ 63 ∧ LamX.Tabs G.T H ∧ ∀ H', Q (.bl true) H'
theorem law_fn {st0 : Stmt} {rest : List Stmt} (F : Fun G.K x qual st f fd) (Sc : FnScope N ps (defScope st)) (hn : 1 = ps.length) (hN : 2 ≤ N.length) (hst : defBody st = st0 :: rest)
    (h0 : ∀ (cdv : Value) (A : Around) (outer : List PySem.Env) (s : Shared) (H : Hp) (E : XK), Room k (A.deeper (envOfC qual (defScope st) s.heap.objs.size f cdv)) →
      PS (cxOf (L2.CX P w) P w G.K mg base N qual (defScope st) f cdv A outer s H E) st0 (tAsg (tCallS (handSp G) (fun _ _ _ _ => False) (tCons (tVar 0) tNil)) (gName 1)))
    (hbody : ∀ (cdv : Value) (A : Around) (outer : List PySem.Env) (s : Shared) (H : Hp) (E : XK) (S : Ent), S.G = G → Room k (A.deeper (envOfC qual (defScope st) s.heap.objs.size f cdv)) →
      DSs S (cxOf (L2.CX P w) P w G.K mg base N qual (defScope st) f cdv A outer s H E) rest B)
    (hB : B (.no :: .val .hand :: List.replicate (N.length - 2) .no) { nx := fun _ => False, rt := fun d _ => d = .bl true, bk := fun _ => False, ct := fun _ => False, ex := fun _ _ => False }) :
    FnOk P w G.K mg base (L2.CX P w) (k + 1) f fd ps (lawSp G) := by
  refine F.okX Sc (fun vs H Q E h => ?_) fun cdv A outer s H vs Q E hr h => ?_
  · obtain ⟨_, _, rfl, _⟩ := h
    exact hn
  · obtain ⟨a, ns, rfl, sq, hl, tt, kq⟩ := h
    let T : TS := fun D' σ H' => ∃ S : Ent, ∃ Z env, S.G = G ∧ Rel S Z env σ H' ∧ B env { nx := fun _ => False, rt := fun d _ => d = .bl true, bk := fun _ => False, ct := fun _ => False, ex := fun _ _ => False } ∧ ∀ H', D'.rt (.bl true) H'
    have pr : PSs (cxOf (L2.CX P w) P w G.K mg base N qual (defScope st) f cdv A outer s H E) rest T := ⟨fun pins s1 σ H1 D' I hh => by
      obtain ⟨S, Z, env, eG, R, hb, kk⟩ := hh
      obtain ⟨t, pp, q⟩ := (hbody cdv A outer s H E S eG hr).run (fun cls d _ H => E cls d H) (takes_of rfl rfl rfl rfl) PassesOwn.leaving
      exact pp.run pins s1 σ H1 D' I (q Z env σ H1 _ D' R hb ⟨fun _ _ _ _ _ _ h => h.elim, fun Z' e σ' v d H' R' vl rv h => by subst h; cases rv; exact kk H', fun _ _ _ _ _ _ h => h.elim, fun _ _ _ _ _ _ h => h.elim, fun _ _ _ _ _ _ _ _ _ _ h => h.elim, fun _ _ _ _ _ _ _ _ _ _ _ h => h.elim⟩)⟩
    rw [hst]
    refine ⟨_, pss_cons (h0 cdv A outer s H E hr) pr, ?_⟩
    refine ⟨.ref a, ?_, a, ns, rfl, sq, hl, tt, fun p H' tt' ho => ?_⟩
    · unfold L2.start
      rfl
    · refine ⟨⟨G, ⟨[p], some p, []⟩, H'⟩, ⟨[p], some p, []⟩, _, rfl, ?_, hB, kq⟩
      have hpn : H' p ≠ none := by
        obtain ⟨_, _, _, _, _, _, _, e, _⟩ := ho
        rw [e]; simp
      refine ⟨fun b hb => by rw [List.mem_singleton.mp hb]; exact hpn, fun _ h => h, fun b hb => by cases hb; exact ho, rfl, fun b o e _ => .of e, fun b hb => by rw [List.mem_singleton.mp hb]; exact hpn, fun b hb => .inl hb, ?_, fun i y e => ?_, fun i j y z b ey ez oy oz _ _ => ?_, fun b hb => absurd hb (by simp), tt', fun b hb => .inl hb⟩
      · unfold L2.start
        simp
        omega
      · match i with
        | 0 => cases e; trivial
        | 1 =>
          cases e
          refine ⟨.ref p, ?_, .hand rfl⟩
          rw [List.getElem?_set_self]
          unfold L2.start
          simp
          omega
        | i + 2 =>
          rw [List.getElem?_cons_succ, List.getElem?_cons_succ, List.getElem?_replicate] at e
          split at e
          · cases e; trivial
          · cases e
      · match i with
        | 0 => cases ey; cases oy
        | 1 => cases ey; cases oy
        | i + 2 =>
          rw [List.getElem?_cons_succ, List.getElem?_cons_succ, List.getElem?_replicate] at ey
          split at ey
          · cases ey; cases oy
          · cases ey
end
end DV

set_option Elab.async false
set_option linter.all false
set_option maxRecDepth 100000
/-! DV8: further rules. -/
namespace DV
open PySem PySem.Spec PyProof.Rows L2
section
variable {S : Ent} {X : Cx} {a b c e : Expr} {Ta Tb Tc Te : Tm} {pos : Pos} {A : Tt}
def wNeg (T : Tm) : Tm := fun env Q E => T env (fun d env1 => match d with | .int i => Q (.int (-i)) env1 | _ => False) E
theorem dx_neg (ha : DB S X a Ta) : DE S X (.UnaryOp .USub a pos) (wNeg Ta) := ⟨fun W tk => by
  obtain ⟨t, p, q⟩ := ha.run W tk
  refine ⟨_, pe_un un_neg p, fun Z env σ H Q E Q' R hT k x => ?_⟩
  refine q Z env σ H _ E _ R hT (fun Z1 env1 v d H1 R1 t1 r1 h1 => ?_) x
  split at h1
  · exact ⟨_, r1.int, k Z1 env1 _ _ H1 R1 t1 (.int _) h1⟩
  · exact h1.elim⟩
/-- y = [..] of one line, a value -/
theorem ds_valLc (i : Nat) {y : Str} {py : Pos} {elt tg iter : Expr} {ifs : List Expr} {scope : Scope} {own : List (Str × Nat)} {spos : Pos} {Tt' : Ti} {g : Tg} {ix ws : List Nat} (hc : X.calm = true) (hN : X.N.Nodup)
    (hi : DI S Mv X tg iter Tt') (ok : BlkOk X.N X.env.scope scope own)
    (hg : ∀ (s : Shared) (H : Hp) (C : Addr) (cl : List (Str × Addr)) (fp : List Addr), DG S (X.blk s H scope (compEnvC scope cl C X.env) fp) tg ix g)
    (ht : ∀ (s : Shared) (H : Hp) (C : Addr) (cl : List (Str × Addr)) (fp : List Addr), DIf S (X.blk s H scope (compEnvC scope cl C X.env) fp) ifs A)
    (he : ∀ (s : Shared) (H : Hp) (C : Addr) (cl : List (Str × Addr)) (fp : List Addr), DE S (X.blk s H scope (compEnvC scope cl C X.env) fp) elt Te)
    (hsw : swapsWith (.ListComp elt [⟨tg, iter, ifs, 0⟩] scope pos) (some (.Name y py)) spos.line X.env = pure true) (hy : X.N[i]? = some y := by rfl) (hyl : X.env.scope.names.lookup y = some .local := by rfl)
    (hw : own.map (·.2) = ws := by rfl) (hix : ∀ i ∈ ix, i ∈ ws := by decide) (hs : ∀ x, foldedSetIterable iter X.env x = pure x := by intro _; rfl) :
    DS S X (.Assign [.Name y py] (.ListComp elt [⟨tg, iter, ifs, 0⟩] scope pos) spos) (wAsg (wF (wLc Tt' g A Te ws)) (gN i)) := ⟨fun W tk pa => by
  subst hw
  obtain ⟨wi, pi, qi⟩ := hi.run W tk
  let gt : TG := fun v σ H K' => ∀ s0 H0 C cl fp, Classical.choose (hg s0 H0 C cl fp).run v σ H K'
  have pg : ∀ s0 H0 C cl fp, PG (X.blk s0 H0 scope (compEnvC scope cl C X.env) fp) tg gt := fun s0 H0 C cl fp =>
    ⟨fun pins s σ H v u Q I r h => (Classical.choose_spec (hg s0 H0 C cl fp).run).1.run pins s σ H v u Q I r (h s0 H0 C cl fp)⟩
  refine ⟨_, ps_setLc hc hN hy hyl hsw pi ok pg (fun s H C cl fp => (ht s H C cl fp).sem W0 takes0) (fun s H C cl fp => (he s H C cl fp).sem takes0) hs, fun Z env σ H P D' R hT f => ?_⟩
  refine qi Z env σ H _ _ _ R hT (fun Z1 env1 J items H1 R1 t1 y h1 D0 hD => ?_) ((f.ex σ).ok R)
  obtain ⟨hz, hgo⟩ := h1
  refine lc_turns hix (fun Z env σ H v d K K' R r hk kk s0 H0 C cl fp => (Classical.choose_spec (hg s0 H0 C cl fp).run).2 Z env σ H v d K K' R r hk kk) R1 y hD hz hgo fun Z' e2 vs acc H' R' t' hD' rl hq => ?_
  obtain ⟨R2, sp⟩ := R'.release t'.bb
  have t2 : Tr Z1 H1 ⟨Z'.O, Z'.h, Z1.B⟩ H' := ⟨t'.keep, t'.osub, t'.hh, t'.hz, rfl⟩
  have R3 := R1.back (R1.vle t2) R2
  have sb := sp.back (env := env1)
  have oa : OwnAt S ⟨Z'.O, Z'.h, Z1.B⟩ H' D0 (.own D0 acc) := ⟨rfl, vs, hD', rl⟩
  obtain ⟨R4, v4⟩ := R3.unhide sb.no sb.ne sb.nh (R3.entOut sb.ne) fun hb => (R1.oin D0 (R1.res D0 hb).ino) hD
  exact f.nx _ _ _ H' (R4.put (oa.show v4 (by simp))) (((R.vle t1).trans (R1.vle t2)).trans v4) (hq D0)⟩
/-! ### xs[::-1] -/
def wRev (T : Tm) : Tm := fun env Q E => T env (fun d env1 => match d with | .lst xs => Q (.lst xs.reverse) env1 | _ => False) E
theorem RepL.app {G : Pg} {H : Hp} {hh : Option Addr} : ∀ {vs ws : List V} {ds es : List D}, RepL G H hh vs ds → RepL G H hh ws es → RepL G H hh (vs ++ ws) (ds ++ es)
  | _, _, _, _, .nil, h => h
  | _, _, _, _, .cons h1 h2, h => .cons h1 (RepL.app h2 h)
theorem RepL.rev {G : Pg} {H : Hp} {hh : Option Addr} : ∀ {vs : List V} {ds : List D}, RepL G H hh vs ds → RepL G H hh vs.reverse ds.reverse
  | _, _, .nil => .nil
  | _, _, .cons h1 h2 => by
    rw [List.reverse_cons, List.reverse_cons]
    exact RepL.app h2.rev (.cons h1 .nil)
theorem dx_rev {k : Nat} {p1 p2 p3 : Pos} (hK : X.K = S.G.K) (ha : DB S X a Ta) : DE S X (.Subscript a (.Slice none none (some (.UnaryOp .USub (.Constant (.int 1) k p1) p2)) p3) pos) (wRev Ta) := ⟨fun W tk => by
  obtain ⟨ta, pa, ra⟩ := ha.run W tk
  refine ⟨_, pe_revL pa, fun Z env σ H Q E Q' R hT k x => ?_⟩
  refine ra Z env σ H _ E _ R hT (fun Z1 env1 v d H1 R1 t1 r1 h1 => ?_) x
  split at h1
  · obtain ⟨p, vs, rfl, ep, rp⟩ := r1.lst
    exact ⟨p, vs, rfl, SqL.of ep, fun q hq => k Z1 env1 _ _ _ (R1.grow (same_upd hq)) (Tr.trans R1 t1 (.alloc (same_upd hq))) (new_lst R1.oin hq rp.rev) h1⟩
  · exact h1.elim⟩
end
end DV

set_option Elab.async false
set_option linter.all false
set_option maxRecDepth 100000
/-! DV9: words for the plain proofs. -/
namespace DV
open PySem PySem.Spec PyProof.Rows L2
theorem draw_iff {x y : D} {Q : D → Prop} {E : Er → Prop} : wDraw [x, y] Q E ↔ x = .hand ∧ ∃ m, y = .int m ∧ 0 < m ∧ m < 1073741824 ∧ ∀ d : Int, 0 ≤ d → d < m → Q (.int d) := by
  unfold wDraw
  constructor
  · rintro ⟨m, e, h⟩
    cases e
    exact ⟨rfl, m, rfl, h⟩
  · rintro ⟨rfl, m, rfl, h⟩
    exact ⟨m, rfl, h⟩
theorem own_ex {b : Addr} {ys : List D} {P : Addr → List D → Prop} : (∃ a xs, some (Sl.own b ys) = some (.own a xs) ∧ P a xs) ↔ P b ys := by
  constructor
  · rintro ⟨a, xs, e, h⟩; cases e; exact h
  · intro h; exact ⟨b, ys, rfl, h⟩
theorem val_ex {d : Int} {P : Int → Prop} : (∃ n, some (Sl.val (.int d)) = some (.val (.int n)) ∧ P n) ↔ P d := by
  constructor
  · rintro ⟨n, e, h⟩; cases e; exact h
  · intro h; exact ⟨d, rfl, h⟩
section
variable {α : Type} {a b c d e : α} {l : List α}
theorem atI_0 : atI (a :: l) 0 = some a := by
  unfold atI ixN
  rw [if_pos (by decide), if_pos (by simp only [List.length_cons]; omega)]
  rfl
theorem atI_1 : atI (a :: b :: l) 1 = some b := by
  unfold atI ixN
  rw [if_pos (by decide), if_pos (by simp only [List.length_cons]; omega)]
  rfl
theorem atI_2 : atI (a :: b :: c :: l) 2 = some c := by
  unfold atI ixN
  rw [if_pos (by decide), if_pos (by simp only [List.length_cons]; omega)]
  rfl
theorem atI_3 : atI (a :: b :: c :: d :: l) 3 = some d := by
  unfold atI ixN
  rw [if_pos (by decide), if_pos (by simp only [List.length_cons]; omega)]
  rfl
theorem atI_4 : atI (a :: b :: c :: d :: e :: l) 4 = some e := by
  unfold atI ixN
  rw [if_pos (by decide), if_pos (by simp only [List.length_cons]; omega)]
  rfl
theorem atI_nat {l : List α} {i : Int} {k : Nat} (h : i = k) : atI l i = l[k]? := by
  subst h
  unfold atI ixN
  rw [if_pos (by omega)]
  by_cases q : (k : Int) < l.length
  · rw [if_pos q]; rfl
  · rw [if_neg q, List.getElem?_eq_none (by omega)]; rfl
end
theorem ixN_5_0 : ixN 5 0 = some 0 := rfl
theorem ixN_5_1 : ixN 5 1 = some 1 := rfl
theorem ixN_5_2 : ixN 5 2 = some 2 := rfl
theorem ixN_5_3 : ixN 5 3 = some 3 := rfl
theorem ixN_5_4 : ixN 5 4 = some 4 := rfl
theorem okD_int {i : Int} {n : Nat} : okD (.int i) n = true := by rw [okD]
theorem okD_bl {i : Bool} {n : Nat} : okD (.bl i) n = true := by rw [okD]
theorem okD_non {n : Nat} : okD .non n = true := by rw [okD]
theorem okD_lst {xs : List D} {n : Nat} : okD (.lst xs) (n + 1) = okL xs n := by rw [okD]
theorem okD_tup {xs : List D} {n : Nat} : okD (.tup xs) (n + 1) = okL xs n := by rw [okD]
theorem okL_nil {n : Nat} : okL [] n = true := by rw [okL]
theorem okL_cons {x : D} {xs : List D} {n : Nat} : okL (x :: xs) n = (okD x n && okL xs n) := by rw [okL]
theorem okL_all {xs : List D} {n : Nat} (h : ∀ x ∈ xs, okD x n = true) : okL xs n = true := by
  induction xs with
  | nil => rw [okL]
  | cons x xs ih => rw [okL, h x List.mem_cons_self, ih fun y hy => h y (List.mem_cons_of_mem _ hy)]; rfl
theorem okL_int {xs : List Int} {n : Nat} : okL (xs.map D.int) n = true := okL_all fun x h => by
  obtain ⟨i, _, rfl⟩ := List.mem_map.mp h
  exact okD_int
/-! ### equal data -/
theorem eqD_int {i j : Int} : eqD (.int i) (.int j) = decide (i = j) := by
  unfold eqD
  rw [pd, pd, PyData.eqv]
  exact Bool.eq_iff_iff.mpr (by rw [beq_iff_eq, decide_eq_true_iff])
theorem eqD_bl {i j : Bool} : eqD (.bl i) (.bl j) = decide (i = j) := by
  unfold eqD
  rw [pd, pd, PyData.eqv]
  exact Bool.eq_iff_iff.mpr (by rw [beq_iff_eq, decide_eq_true_iff])
theorem eqD_str {i j : Str} : eqD (.str i) (.str j) = decide (i = j) := by
  unfold eqD
  rw [pd, pd, PyData.eqv]
  exact Bool.eq_iff_iff.mpr (by rw [beq_iff_eq, decide_eq_true_iff])
theorem eqL_nil : eqL [] [] = true := by
  unfold eqL
  rw [pdL, PyData.eqvAll]
theorem eqL_nc {y : D} {ys : List D} : eqL [] (y :: ys) = false := by
  unfold eqL
  rw [pdL, pdL, PyData.eqvAll]
theorem eqL_cn {y : D} {ys : List D} : eqL (y :: ys) [] = false := by
  unfold eqL
  rw [pdL, pdL, PyData.eqvAll]
theorem eqL_cons {x y : D} {xs ys : List D} : eqL (x :: xs) (y :: ys) = (eqD x y && eqL xs ys) := by
  unfold eqL eqD
  rw [pdL, pdL, PyData.eqvAll]
theorem eqD_tup {xs ys : List D} : eqD (.tup xs) (.tup ys) = eqL xs ys := by
  unfold eqD eqL
  rw [pd, pd, PyData.eqv]
theorem eqD_lst {xs ys : List D} : eqD (.lst xs) (.lst ys) = eqL xs ys := by
  unfold eqD eqL
  rw [pd, pd, PyData.eqv]
theorem eqL_int : ∀ {xs ys : List Int}, eqL (xs.map D.int) (ys.map D.int) = decide (xs = ys)
  | [], [] => by simp [eqL_nil]
  | [], _ :: _ => by simp [eqL_nc]
  | _ :: _, [] => by simp [eqL_cn]
  | x :: xs, y :: ys => by
    rw [List.map_cons, List.map_cons, eqL_cons, eqD_int, eqL_int]
    simp only [List.cons.injEq, Bool.decide_and]
theorem eqL_str : ∀ {xs ys : List Str}, eqL (xs.map D.str) (ys.map D.str) = decide (xs = ys)
  | [], [] => by simp [eqL_nil]
  | [], _ :: _ => by simp [eqL_nc]
  | _ :: _, [] => by simp [eqL_cn]
  | x :: xs, y :: ys => by
    rw [List.map_cons, List.map_cons, eqL_cons, eqD_str, eqL_str]
    simp only [List.cons.injEq, Bool.decide_and]
mutual
theorem eqD_refl : ∀ {x : D} {n : Nat}, okD x n = true → eqD x x = true
  | .non, _, _ => by unfold eqD; rw [pd, PyData.eqv]
  | .bl _, _, _ => by rw [eqD_bl]; simp
  | .int _, _, _ => by rw [eqD_int]; simp
  | .str _, _, _ => by rw [eqD_str]; simp
  | .tup xs, 0, h => by rw [okD] at h; cases h
  | .tup xs, n + 1, h => by
    rw [okD] at h
    rw [eqD_tup]; exact eqL_refl h
  | .lst xs, 0, h => by rw [okD] at h; cases h
  | .lst xs, n + 1, h => by
    rw [okD] at h
    rw [eqD_lst]; exact eqL_refl h
  | .dct _, _, h => by rw [okD] at h; cases h
  | .obj _ _, _, h => by rw [okD] at h; cases h
  | .frz _, _, h => by rw [okD] at h; cases h
  | .hand, _, h => by rw [okD] at h; cases h
theorem eqL_refl : ∀ {x : List D} {n : Nat}, okL x n = true → eqL x x = true
  | [], _, _ => eqL_nil
  | x :: xs, n, h => by
    rw [okL, Bool.and_eq_true] at h
    rw [eqL_cons, eqD_refl h.1, eqL_refl h.2]; rfl
end
/-! ### turns -/
theorem for_ind {g : Tg} {B : Ts} {P : Post} (I : List D → Env → Prop) (fin : ∀ env, I [] env → P.nx env)
    (step : ∀ x r env, I (x :: r) env → ∀ nx : Env → Prop, (∀ e, I r e → nx e) → g x env fun e1 => B e1 { P with nx := nx, ct := nx, bk := P.nx }) : ∀ {xs : List D} {env : Env}, I xs env → forGo g B P xs env
  | [], env, h => fin env h
  | x :: r, env, h => step x r env h _ fun _ h2 => for_ind I fin step h2
theorem rangeD_get {lo hi : Int} {k : Nat} (h : (k : Int) < hi - lo) : (rangeD lo hi).drop k = .int (lo + k) :: (rangeD lo hi).drop (k + 1) := by
  have hl : (rangeD lo hi).length = (hi - lo).toNat := by unfold rangeD; simp
  rw [List.drop_eq_getElem_cons (by rw [hl]; omega)]
  congr 1
  unfold rangeD
  simp
theorem for_range {g : Tg} {B : Ts} {P : Post} {lo hi : Int} (I : Nat → Env → Prop) {env : Env} (h0 : I 0 env) (fin : ∀ env, I (hi - lo).toNat env → P.nx env)
    (step : ∀ (k : Nat) env, (k : Int) < hi - lo → I k env → ∀ nx : Env → Prop, (∀ e, I (k + 1) e → nx e) → g (.int (lo + k)) env fun e1 => B e1 { P with nx := nx, ct := nx, bk := P.nx }) : forGo g B P (rangeD lo hi) env := by
  have hl : (rangeD lo hi).length = (hi - lo).toNat := by unfold rangeD; simp
  refine for_ind (fun r e => ∃ k, k ≤ (hi - lo).toNat ∧ r = (rangeD lo hi).drop k ∧ I k e) (fun e h => ?_) (fun x r e h nx hn => ?_) ⟨0, by omega, rfl, h0⟩
  · obtain ⟨k, hk, e1, h⟩ := h
    have e2 := congrArg List.length e1
    rw [List.length_drop, hl] at e2
    have : k = (hi - lo).toNat := by simp at e2; omega
    subst this
    exact fin e h
  · obtain ⟨k, hk, e1, h⟩ := h
    have e2 := congrArg List.length e1
    rw [List.length_drop, hl] at e2
    have hk2 : (k : Int) < hi - lo := by simp at e2; omega
    rw [rangeD_get hk2] at e1
    cases e1
    exact step k e hk2 h nx fun e2 h2 => hn e2 ⟨k + 1, by omega, rfl, h2⟩
theorem wh_ind {A : Tt} {B : Ts} {P : Post} (I : Nat → Env → Prop)
    (step : ∀ m env, I m env → ∀ nx : Env → Prop, (∀ m' e, m' < m → I m' e → nx e) → A env (fun k e1 => if k = true then B e1 { P with nx := nx, ct := nx, bk := P.nx } else P.nx e1) P.ex) {m : Nat} {env : Env} (h : I m env) : ∃ n, whGo A B P n env := by
  have key : ∀ n m env, m < n → I m env → whGo A B P n env := by
    intro n
    induction n with
    | zero => intro m env h; omega
    | succ n ih => exact fun m env hm hi => step m env hi _ fun m' e h1 h2 => ih m' e (by omega) h2
  exact ⟨m + 1, key _ _ _ (Nat.lt_succ_self m) h⟩
theorem lc_flat {g : Tg} {A : Tt} {Te : Tm} {ws : List Nat} {K : List D → Env → Prop} (FF : D → List D) {env : Env} : ∀ {xs acc : List D}, (∀ x ∈ xs, ∀ K' : List D → Env → Prop, K' (FF x) env → g x env fun e1 => A e1 (fun b e2 => if b = true then Te e2 (fun d e3 => K' [d] (wipeE e3 ws)) (fun _ _ => False) else K' [] (wipeE e2 ws)) fun _ _ => False) →
    K (acc ++ xs.flatMap FF) env → lcGo g A Te ws xs acc env K
  | [], acc, _, h => by simpa [lcGo] using h
  | x :: xs, acc, hs, h => by
    have := hs x List.mem_cons_self (fun ds e => lcGo g A Te ws xs (acc ++ ds) e K) (lc_flat FF (fun y hy => hs y (List.mem_cons_of_mem _ hy)) (by simpa [List.append_assoc] using h))
    simpa only [lcGo, List.append_nil] using this
theorem lc_map {g : Tg} {A : Tt} {Te : Tm} {ws : List Nat} {K : List D → Env → Prop} (F : D → D) {env : Env} {xs acc : List D} (hs : ∀ x ∈ xs, ∀ K' : List D → Env → Prop, K' [F x] env → g x env fun e1 => A e1 (fun b e2 => if b = true then Te e2 (fun d e3 => K' [d] (wipeE e3 ws)) (fun _ _ => False) else K' [] (wipeE e2 ws)) fun _ _ => False)
    (h : K (acc ++ xs.map F) env) : lcGo g A Te ws xs acc env K := lc_flat (fun x => [F x]) hs (by rw [List.map_eq_flatMap] at h; exact h)
/-- each turn gives one datum that answers to R -/
theorem lc_rel {g : Tg} {A : Tt} {Te : Tm} {ws : List Nat} {K : List D → Env → Prop} (R : D → D → Prop) {env : Env} : ∀ {xs acc : List D}, (∀ x ∈ xs, ∀ K' : List D → Env → Prop, (∀ d, R x d → K' [d] env) → g x env fun e1 => A e1 (fun b e2 => if b = true then Te e2 (fun d e3 => K' [d] (wipeE e3 ws)) (fun _ _ => False) else K' [] (wipeE e2 ws)) fun _ _ => False) →
    (∀ ds : List D, ds.length = xs.length → (∀ (i : Nat) x d, xs[i]? = some x → ds[i]? = some d → R x d) → K (acc ++ ds) env) → lcGo g A Te ws xs acc env K
  | [], acc, _, h => by simpa [lcGo] using h [] rfl (by intro i x d e; simp at e)
  | x :: xs, acc, hs, h => by
    have := hs x List.mem_cons_self (fun ds e => lcGo g A Te ws xs (acc ++ ds) e K) (fun d hd => lc_rel R (fun y hy => hs y (List.mem_cons_of_mem _ hy)) fun ds hl hr => by
      rw [List.append_assoc]
      refine h (d :: ds) (by simp [hl]) fun i a b e1 e2 => ?_
      match i with
      | 0 => cases e1; cases e2; exact hd
      | i + 1 => exact hr i a b (by simpa using e1) (by simpa using e2))
    simpa only [lcGo, List.append_nil] using this
/-- draws: a list of numbers from nought to below b -/
theorem ints_of {ds : List D} {p : Int → Prop} (h : ∀ d ∈ ds, ∃ i, d = .int i ∧ p i) : ∃ ns : List Int, ds = ns.map D.int ∧ ∀ n ∈ ns, p n := by
  induction ds with
  | nil => exact ⟨[], rfl, by simp⟩
  | cons d ds ih =>
    obtain ⟨ns, e, hn⟩ := ih fun x hx => h x (List.mem_cons_of_mem _ hx)
    obtain ⟨i, rfl, hi⟩ := h d List.mem_cons_self
    refine ⟨i :: ns, by rw [List.map_cons, e], fun n hn' => ?_⟩
    rcases List.mem_cons.mp hn' with rfl | hm
    · exact hi
    · exact hn n hm
theorem lc_ints {g : Tg} {A : Tt} {Te : Tm} {ws : List Nat} {K : List D → Env → Prop} (p : Int → Prop) {env : Env} {xs : List D} (hs : ∀ x ∈ xs, ∀ K' : List D → Env → Prop, (∀ d, p d → K' [.int d] env) → g x env fun e1 => A e1 (fun b e2 => if b = true then Te e2 (fun d e3 => K' [d] (wipeE e3 ws)) (fun _ _ => False) else K' [] (wipeE e2 ws)) fun _ _ => False)
    (h : ∀ ns : List Int, ns.length = xs.length → (∀ n ∈ ns, p n) → K (ns.map D.int) env) : lcGo g A Te ws xs [] env K := by
  refine lc_rel (fun _ d => ∃ i, d = .int i ∧ p i) (fun x hx K' hk => hs x hx K' fun d hd => hk _ ⟨d, rfl, hd⟩) fun ds hl hr => ?_
  obtain ⟨ns, rfl, hn⟩ := ints_of (p := p) (ds := ds) fun d hd => by
    obtain ⟨i, hi, e⟩ := List.getElem_of_mem hd
    exact hr i _ d (List.getElem?_eq_getElem (by omega)) (by rw [List.getElem?_eq_getElem hi, e])
  exact h ns (by simpa using hl) hn
theorem mem_range {lo hi : Int} {x : D} (h : x ∈ rangeD lo hi) : ∃ i, x = .int i ∧ lo ≤ i ∧ i < hi := by
  unfold rangeD at h
  obtain ⟨k, hk, rfl⟩ := List.mem_map.mp h
  rw [List.mem_range] at hk
  exact ⟨_, rfl, by omega, by omega⟩
theorem natAbs_10 : Int.natAbs 10 = 10 := rfl
theorem natAbs_2 : Int.natAbs 2 = 2 := rfl
theorem emod_mul_l {a b q : Int} : a % q * b % q = a * b % q := by
  rw [Int.mul_emod, Int.emod_emod_of_dvd _ (Int.dvd_refl q), ← Int.mul_emod]
theorem emod_mul_r {a b q : Int} : a * (b % q) % q = a * b % q := by
  rw [Int.mul_emod, Int.emod_emod_of_dvd _ (Int.dvd_refl q), ← Int.mul_emod]
def rangeI (lo hi : Int) : List Int := (List.range (hi - lo).toNat).map fun (k : Nat) => lo + k
theorem rangeD_map {lo hi : Int} : rangeD lo hi = (rangeI lo hi).map D.int := by
  unfold rangeD rangeI
  rw [List.map_map]; rfl
theorem mem_rangeI {lo hi x : Int} : x ∈ rangeI lo hi ↔ lo ≤ x ∧ x < hi := by
  unfold rangeI
  rw [List.mem_map]
  constructor
  · rintro ⟨k, hk, rfl⟩
    rw [List.mem_range] at hk
    omega
  · intro h
    exact ⟨(x - lo).toNat, by rw [List.mem_range]; omega, by omega⟩
theorem rangeI_len {lo hi : Int} : (rangeI lo hi).length = (hi - lo).toNat := by unfold rangeI; simp
/-- a loop that looks for the first hit -/
theorem for_search {α : Type} {emb : α → D} {g : Tg} {B : Ts} (f : α → Option D) (J : Env → Prop) : ∀ {xs : List α} {P : Post} {env : Env}, (∀ d, xs.findSome? f = some d → ∀ e, P.rt d e) → (xs.findSome? f = none → ∀ e, J e → P.nx e) →
    (∀ x ∈ xs, ∀ env, J env → ∀ P' : Post, (∀ d, f x = some d → ∀ e, P'.rt d e) → (f x = none → ∀ e, J e → P'.nx e) → g (emb x) env fun e1 => B e1 P') → J env → forGo g B P (xs.map emb) env
  | [], P, env, _, h2, _, j => h2 rfl env j
  | x :: xs, P, env, h1, h2, hs, j => by
    rw [List.map_cons, forGo]
    refine hs x List.mem_cons_self env j _ (fun d hd e => h1 d (by rw [List.findSome?_cons, hd]) e) fun hn e je => ?_
    exact for_search f J (fun d hd => h1 d (by rw [List.findSome?_cons, hn]; exact hd)) (fun hd => h2 (by rw [List.findSome?_cons, hn]; exact hd)) (fun y hy => hs y (List.mem_cons_of_mem _ hy)) je
theorem findSome_congr {α β : Type} {f f' : α → Option β} : ∀ {xs : List α}, (∀ x ∈ xs, f x = f' x) → xs.findSome? f = xs.findSome? f'
  | [], _ => rfl
  | x :: xs, h => by
    rw [List.findSome?_cons, List.findSome?_cons, h x List.mem_cons_self, findSome_congr fun y hy => h y (List.mem_cons_of_mem _ hy)]
theorem big_0 : (0 ≤ big) = True := eq_true (by decide)
theorem big_1 : (1 ≤ big) = True := eq_true (by decide)
theorem big_2 : (2 ≤ big) = True := eq_true (by decide)
theorem big_3 : (3 ≤ big) = True := eq_true (by decide)
theorem big_4 : (4 ≤ big) = True := eq_true (by decide)
theorem big_5 : (5 ≤ big) = True := eq_true (by decide)
theorem big_6 : (6 ≤ big) = True := eq_true (by decide)
theorem big_7 : (7 ≤ big) = True := eq_true (by decide)
theorem big_8 : (8 ≤ big) = True := eq_true (by decide)
theorem big_9 : (9 ≤ big) = True := eq_true (by decide)
theorem big_10 : (10 ≤ big) = True := eq_true (by decide)
theorem big_11 : (11 ≤ big) = True := eq_true (by decide)
theorem big_12 : (12 ≤ big) = True := eq_true (by decide)
/-! ### cuts -/
theorem cut_map {xs : List Int} {lo hi : Option Int} : DV.cutD (xs.map D.int) lo hi = ((xs.drop (HT.sIx xs.length 0 lo)).take (HT.sIx xs.length xs.length hi - HT.sIx xs.length 0 lo)).map D.int := by
  unfold DV.cutD
  rw [List.length_map, List.map_take, List.map_drop]
theorem cut_to {xs : List D} {i : Int} {k : Nat} (h : i = k) : DV.cutD xs none (some i) = xs.take k := by
  subst h
  unfold DV.cutD
  rw [HT.sIx_none, HT.sIx_nat, List.drop_zero, Nat.sub_zero]
  by_cases h : k ≤ xs.length
  · rw [Nat.min_eq_left h]
  · rw [Nat.min_eq_right (by omega), List.take_length, List.take_of_length_le (by omega)]
theorem cut_from {xs : List D} {i : Int} {k : Nat} (h : i = k) : DV.cutD xs (some i) none = xs.drop k := by
  subst h
  unfold DV.cutD
  rw [HT.sIx_none, HT.sIx_nat]
  by_cases h : k ≤ xs.length
  · rw [Nat.min_eq_left h, List.take_of_length_le (by rw [List.length_drop]; omega)]
  · rw [Nat.min_eq_right (by omega), Nat.sub_self, List.take_zero, List.drop_of_length_le (by omega)]
theorem cut_mid {xs : List D} {i j : Int} {k m : Nat} (h : i = k) (h2 : j = m) : DV.cutD xs (some i) (some j) = (xs.drop k).take (m - k) := by
  subst h h2
  unfold DV.cutD
  rw [HT.sIx_nat, HT.sIx_nat]
  by_cases h : k ≤ xs.length
  · rw [Nat.min_eq_left h]
    by_cases h' : m ≤ xs.length
    · rw [Nat.min_eq_left h']
    · rw [Nat.min_eq_right (by omega), List.take_of_length_le (i := m - k) (by rw [List.length_drop]; omega), List.take_of_length_le (by rw [List.length_drop]; omega)]
  · rw [Nat.min_eq_right (by omega : xs.length ≤ k), List.drop_of_length_le (by omega), List.drop_of_length_le (by omega), List.take_nil, List.take_nil]
theorem okD_str {x : Str} {n : Nat} : okD (.str x) n = PyData.strOk x := by rw [okD, PyData.canLay0]
/-! ### slots, not by computing -/
section
variable {α : Type} {a b : α} {l : List α} {n : Nat}
theorem get_z : (a :: l)[0]? = some a := Eq.trans (Eq.refl _) List.getElem?_cons_zero
theorem get_s : (a :: l)[n + 1]? = l[n]? := Eq.trans (Eq.refl _) List.getElem?_cons_succ
theorem set_z : (a :: l).set 0 b = b :: l := Eq.trans (Eq.refl _) (Eq.refl _)
theorem set_s : (a :: l).set (n + 1) b = a :: l.set n b := Eq.trans (Eq.refl _) (Eq.refl _)
end
/-! ### targets of several names -/
section
variable {env : Env} {K : Env → Prop}
theorem gT1 {x0 : D} {i0 : Nat} : DV.gTup 1 (DV.gCons (gN i0) DV.gNil) (.tup [x0]) env K ↔ K (env.set i0 (.val x0)) := by
  unfold DV.gTup
  exact ⟨fun h => h.2.2, fun h => ⟨rfl, rfl, h⟩⟩
theorem gT2 {x0 x1 : D} {i0 i1 : Nat} : DV.gTup 2 (DV.gCons (gN i0) (DV.gCons (gN i1) DV.gNil)) (.tup [x0, x1]) env K ↔ K ((env.set i0 (.val x0)).set i1 (.val x1)) := by
  unfold DV.gTup
  exact ⟨fun h => h.2.2, fun h => ⟨rfl, rfl, h⟩⟩
theorem gT3 {x0 x1 x2 : D} {i0 i1 i2 : Nat} : DV.gTup 3 (DV.gCons (gN i0) (DV.gCons (gN i1) (DV.gCons (gN i2) DV.gNil))) (.tup [x0, x1, x2]) env K ↔ K (((env.set i0 (.val x0)).set i1 (.val x1)).set i2 (.val x2)) := by
  unfold DV.gTup
  exact ⟨fun h => h.2.2, fun h => ⟨rfl, rfl, h⟩⟩
theorem gT4 {x0 x1 x2 x3 : D} {i0 i1 i2 i3 : Nat} : DV.gTup 4 (DV.gCons (gN i0) (DV.gCons (gN i1) (DV.gCons (gN i2) (DV.gCons (gN i3) DV.gNil)))) (.tup [x0, x1, x2, x3]) env K ↔ K ((((env.set i0 (.val x0)).set i1 (.val x1)).set i2 (.val x2)).set i3 (.val x3)) := by
  unfold DV.gTup
  exact ⟨fun h => h.2.2, fun h => ⟨rfl, rfl, h⟩⟩
theorem gT5 {x0 x1 x2 x3 x4 : D} {i0 i1 i2 i3 i4 : Nat} : DV.gTup 5 (DV.gCons (gN i0) (DV.gCons (gN i1) (DV.gCons (gN i2) (DV.gCons (gN i3) (DV.gCons (gN i4) DV.gNil))))) (.tup [x0, x1, x2, x3, x4]) env K ↔ K (((((env.set i0 (.val x0)).set i1 (.val x1)).set i2 (.val x2)).set i3 (.val x3)).set i4 (.val x4)) := by
  unfold DV.gTup
  exact ⟨fun h => h.2.2, fun h => ⟨rfl, rfl, h⟩⟩
theorem gT6 {x0 x1 x2 x3 x4 x5 : D} {i0 i1 i2 i3 i4 i5 : Nat} : DV.gTup 6 (DV.gCons (gN i0) (DV.gCons (gN i1) (DV.gCons (gN i2) (DV.gCons (gN i3) (DV.gCons (gN i4) (DV.gCons (gN i5) DV.gNil)))))) (.tup [x0, x1, x2, x3, x4, x5]) env K ↔ K ((((((env.set i0 (.val x0)).set i1 (.val x1)).set i2 (.val x2)).set i3 (.val x3)).set i4 (.val x4)).set i5 (.val x5)) := by
  unfold DV.gTup
  exact ⟨fun h => h.2.2, fun h => ⟨rfl, rfl, h⟩⟩
theorem gT7 {x0 x1 x2 x3 x4 x5 x6 : D} {i0 i1 i2 i3 i4 i5 i6 : Nat} : DV.gTup 7 (DV.gCons (gN i0) (DV.gCons (gN i1) (DV.gCons (gN i2) (DV.gCons (gN i3) (DV.gCons (gN i4) (DV.gCons (gN i5) (DV.gCons (gN i6) DV.gNil))))))) (.tup [x0, x1, x2, x3, x4, x5, x6]) env K ↔ K (((((((env.set i0 (.val x0)).set i1 (.val x1)).set i2 (.val x2)).set i3 (.val x3)).set i4 (.val x4)).set i5 (.val x5)).set i6 (.val x6)) := by
  unfold DV.gTup
  exact ⟨fun h => h.2.2, fun h => ⟨rfl, rfl, h⟩⟩
end
end DV

set_option Elab.async false
set_option linter.all false
set_option maxRecDepth 100000
/-! DVM: rules of the machine's side that the layer lacked: C.f(e, ..) of a class's def; raise C() of a class whose __init__ takes self alone. -/
namespace DV
open PySem PySem.Spec PyProof.Rows L2
section
variable {X : Cx} {CX : CXT} {k : Nat} {C g fI : Addr} {mc : Value} {fd : FuncData} {ps : List Str} {sp : Sp} {E : XK} {o e : Expr} {es : List Expr} {x m : Str} {p pos apos : Pos} {ta : TE} {t : TA} {pl : Sem Bool}
/-- C.f(e, ..): the class's def, called plainly -/
def tCFn (C : Addr) (sp : Sp) (E : XK) (ta : TE) (t : TA) : TE := fun σ H Q => ta σ H fun y H1 => y = .ref C ∧ t σ H1 fun vs H2 => sp vs H2 Q E
theorem pe_cfn (he : PE X o ta) (rd : ClX.CRead X.K C mc) (c : PySem.W.findCls X.K (.ref C) mc m = some (.val (.ref g))) (F : FnOk X.prog X.w X.K X.mg X.base CX k g fd ps sp) (hr : Room k X.A) (hk : PySem.W.keepIn X.K (.ref g) = true) (hb : Binds X.K fd ps [])
    (hx : Passes CX X E) (ha : PA X (e :: es) t) (hst : starEach (e :: es) X.env = (false, eval e X.env) :: starEach es X.env := by rfl) (hpl : (backTo pos (starEach es X.env)).any (·.1) = false := by rfl)
    (ht : eval (.Call (.Attribute o m apos) (e :: es) [] pos) X.env = (do
      let ov ← eval o X.env
      standAt apos.atName
      let (f, first) ← holding [ov] (getMethod ov m pl)
      callWith pos f first (backTo pos (starEach (e :: es) X.env)) (backToKw pos (keywordEach [] X.env))) := by rfl) :
    PE X (.Call (.Attribute o m apos) (e :: es) [] pos) (tCFn C sp E ta t) := by
  refine ⟨fun pins s σ H Q I h => ?_⟩
  refine PySem.W.methodCall_KW (pl := pl) (thn (he.run pins s σ H _ I h) fun u s1 ⟨y, H1, I1, ry, ey, q⟩ => ?_) ht
  subst ey
  obtain rfl : u = Value.ref C := ry
  refine PySem.W.method_cls I1.kIn rd.ga (PySem.W.cls_value I1.kIn rd.rd c (handed_of (v := .ref g) rfl) ?_)
  have I2 := I1.tok (s1.toks + 1)
  refine PySem.W.callWith_K (h₀ := X.base) I2.ok.mod.kin hk (thn (ha.run pos pins _ σ H1 _ I2 q) fun us s3 hh => ?_) hst hpl
  obtain ⟨vs, H3, I3, r3, q3⟩ := hh
  exact ⟨I3.kIn, run_fn (ds := []) (dvs := []) F hr hb .nil hx I3 r3 (by rw [List.append_nil]; exact q3)⟩
/-- a made error without a dict is let go -/
theorem mk0_end {pins : List (Addr × Obj)} {σ : L2.St} {H1 H2 : Hp} {Q : XK} {ha hb hc : Heap} {ga gc : Array GenState} {da dc : Drawn} {ra rc : Nat} {oa oc : OsState} {a C : Addr} (T : Raises X (.ref C)) (I1 : Inv X pins σ H1 ⟨ha, ga, da, ra, oa⟩)
    (lo : ha.objs.size ≤ a) (kp : ∀ b o, ha.get? b = some o → hb.get? b = some o) (un : Un (frs X.stack) [] (upd H1 a (exo a C none)) H2 hb hc) (hok : HOk X.prog X.w H2 hc) (eo : oc = oa) (bare : AllBare gc)
    (ea : H2 a = some (exo a C none)) (q : Q (.ref C) none (del H2 a)) : MkP X pins σ Q (.ref a) ⟨hc, gc, dc, rc, oc⟩ := by
  obtain ⟨tt0, hoe1⟩ := exo_at hok ea
  have n1 : H1 a = none := I1.hok.fresh lo
  obtain ⟨G, g1, g2⟩ := restrict hc fun b => decide (b ≠ a)
  have gk : ∀ b, b ≠ a → G.get? b = hc.get? b := fun b z => g1 b (decide_eq_true z)
  have ge : G.get? a = none := g2 a (by simp)
  have far : ∀ {b : Addr} {o : Obj}, ha.get? b = some o → b ≠ a := fun {b o} z => Nat.ne_of_lt (Nat.lt_of_lt_of_le (Heap.lt_size z) lo)
  have up : ∀ {b : Addr}, b ≠ a → H1 b = none → upd H1 a (exo a C none) b = none := fun {b} z n => by rw [upd_ne z]; exact n
  have U : Un (frs X.stack) [] H1 (del H2 a) ha G :=
    ⟨fun b o z n hf hx => by rw [gk b (far z)]; exact un.keep b o (kp b o z) (up (far z) n) hf hx,
     fun b o z n hf hx => by rw [gk b (far z)]; exact un.slot b o (kp b o z) (up (far z) n) hf hx,
     fun b o z n hx => by rw [del_ne (far z)]; exact un.free b o (kp b o z) (up (far z) n) hx,
     fun b o z hx => by rw [gk b (far z)]; exact un.there b o (kp b o z) hx,
     fun b xs z => by rw [del_ne (ne_of_none z n1)]; exact un.tups b xs (by rw [upd_ne (ne_of_none z n1)]; exact z),
     fun b o v z => by rw [del_ne (ne_of_none z n1)]; exact un.frzs b o v (by rw [upd_ne (ne_of_none z n1)]; exact z),
     fun b ps z => by rw [del_ne (ne_of_none z n1)]; exact un.tbls b ps (by rw [upd_ne (ne_of_none z n1)]; exact z)⟩
  have hok2 : HOk X.prog X.w (del H2 a) G := fun b o z => by
    have nba : b ≠ a := fun e => by
      rw [e, del_same] at z
      cases z
    rw [del_ne nba] at z
    have noa : ∀ {c : Addr}, H2 c = some (.own b) → c ≠ a := fun {c} y => at_ne ea y exo_own
    refine (hok b o z).stay (fun c v y w => ?_) (fun c y => by rw [del_ne (noa y)]; exact y) fun c xs y => by rw [del_ne (at_ne ea y exo_tup)]; exact y
    have hca : c ≠ a := by
      rcases y with y | y
      · rw [y]; exact nba
      · exact noa y
    rw [gk c hca]
    exact w
  have J : Inv X pins σ (del H2 a) ⟨G, gc, dc, rc, oc⟩ := I1.call' (ch := []) eo U hok2 bare (fun b z => absurd z (by simp))
  refine ⟨a, _, _, ⟨G, gc, dc, rc, oc⟩, _, .ref C, none, rfl, J, fun b o z => ?_, ge, hoe1, ⟨rfl, rfl⟩, rfl, rfl, del_same, rfl, bare, T, q⟩
  by_cases nba : b = a
  · rw [nba, ge] at z
    cases z
  · exact (gk b nba).symm.trans z
/-- C(), C's __init__ (its own, or one above) keeping sp -/
def tMk0 (C : Addr) (sp : Sp) : L2.St → Hp → XK → Prop := fun _ H Q => ∀ a, H a = none → sp [.ref a] (upd H a (exo a C none)) (fun v H2 => v = .non ∧ H2 a = some (exo a C none) ∧ Q (.ref C) none (del H2 a)) (fun _ _ _ => False)
theorem pmk_ox0 (T : OexC X.K C) (iC : PySem.W.findIn X.K (.ref C) "__init__" = some (some (.ref fI))) (tI : PySem.W.typeIn X.K (.ref fI) = some (.type "function")) (F : FnOk X.prog X.w X.K X.mg X.base CX k fI fd ps sp) (hr : Room (k + 1) X.A) (hb : Binds X.K fd ps [])
    (hx : Passes CX X (fun _ _ _ => False)) (hg : Gl X x) (hm : X.mg x = some (.ref C)) (hdb : (x == ("__debug__" : Str)) = false := by decide) : PMk X (.Call (.Name x p) [] [] pos) (tMk0 C sp) := by
  intro pins s σ H Q I h
  obtain ⟨nm, q, N, bs, bm, sn, sub, ab, col, dd, a0, a1, a2, a3, a5, hC, hbm⟩ := T.cls
  refine wpAny_Call_Name_kw (ld_glob I hg hm ?_ hdb)
  refine PySem.W.callWith_K0 I.kIn T.kC ?_
  show wpAny _ _ (call (.ref C) []) _ _ _
  obtain ⟨hp, ga, da, ra, oa⟩ := s
  have up : hp.objs.size ≤ hp.objs.size + 1 := Nat.le_succ _
  have nn : H (hp.objs.size + 1) = none := I.hok.fresh up
  have hq := h (hp.objs.size + 1) nn
  have kk : ∀ b o, hp.get? b = some o → ((hp.push (PySem.W.kdv_tup [])).push (PySem.HandSPX.excO C hp.objs.size)).get? b = some o := fun b o z => Heap.get?_push_of_some _ (Heap.get?_push_of_some _ z)
  have hget : ((hp.push (PySem.W.kdv_tup [])).push (PySem.HandSPX.excO C hp.objs.size)).get? (hp.objs.size + 1) = some (PySem.HandSPX.excO C hp.objs.size) := by heap_get
  have I2 : Inv X pins σ (upd H (hp.objs.size + 1) (exo (hp.objs.size + 1) C none)) ⟨(hp.push (PySem.W.kdv_tup [])).push (PySem.HandSPX.excO C hp.objs.size), ga, da, ra, oa⟩ :=
    I.laid (t' := ra) (a := hp.objs.size + 1) (o := exo (hp.objs.size + 1) C none) kk up (exo_ok hget)
  have r2 : Vals [V.ref (hp.objs.size + 1)] [Value.ref (hp.objs.size + 1)] := .cons rfl .nil
  have hl : ([Value.ref (hp.objs.size + 1)] ++ ([] : List Value)).length = ps.length := by
    have z := r2.length
    rw [F.len _ _ _ _ hq] at z
    exact z.symm
  refine wpAny_call (PySem.HandSPX.call_own PySem.F.excBase_ValueError (fun Y => PySem.HandSPX.refsVE_contains Y bm hbm) (I.kIn _ _ hC) (PySem.W.looks_findIn I.kIn iC) (fun self => PySem.W.bind_fn I.kIn self tI) (Nat.zero_le _) ?_)
  have e0 : ([Value.ref (hp.objs.size + 1)] ++ ([] : List Value)) = [Value.ref (hp.objs.size + 1)] := rfl
  refine codeAny_mono (F.run _ X.stack _ _ ⟨[Value.ref (hp.objs.size + 1)], []⟩ [Value.ref (hp.objs.size + 1)] _ _ (fun _ _ _ => False) (hr.make C [] []) (I2.env0.make C [] []) (hb _ [Value.ref (hp.objs.size + 1)] I2.kIn hl) r2 hq) fun r s2 hr2 => ?_
  cases r with
  | error er => exact hx pins σ _ _ er s2 I2 hr2
  | ok fl =>
    cases fl with
    | ret u =>
      obtain ⟨v, H2, os2, bare2, un2, hok2, rv, ev, ea, q2⟩ := hr2
      subst ev
      obtain ⟨hc, gc, dc, rc, oc⟩ := s2
      exact ⟨rv, mk0_end (raises_own T.exC T.tyC) I up kk un2 hok2 os2 bare2 ea q2⟩
    | next => exact False.elim hr2
    | brk => exact False.elim hr2
    | cont => exact False.elim hr2
end
end DV

set_option Elab.async false
set_option linter.all false
set_option maxRecDepth 100000
/-! DV10: errors raised and caught, lambdas handed over. -/
namespace DV
open PySem PySem.Spec PyProof.Rows L2
/-! ### raising -/
/-- what __init__(self) without fields keeps -/
def sp0 (K : PySem.W.Frag) : Sp := fun vs H Q _ => ∃ (a C : Addr), vs = [.ref a] ∧ OexC K C ∧ H a = some (exo a C none) ∧ Q .non H
/-- what __init__(self, f) with one field keeps -/
def sp1 (K : PySem.W.Frag) (f : Str) : Sp := fun vs H Q _ => ∃ (a C : Addr) (v : V), vs = [.ref a, v] ∧ OexC K C ∧ PySem.W.findIn K (.ref C) f = some none ∧ H a = some (exo a C none) ∧
  ∀ dx, H dx = none → dx ≠ a → Q .non (upd (upd H dx (exd dx [(f, v)])) a (exo a C (some dx)))
structure ErC (P : Program) (w : World) (G : Pg) (mg : Str → Option Value) (base : Heap) (x : Str) (k : Nat) (sp : Sp) : Prop where
  ex : ∃ C fI fd ps, G.ET x = some C ∧ mg x = some (.ref C) ∧ OexC G.K C ∧ PySem.W.findIn G.K (.ref C) "__init__" = some (some (.ref fI)) ∧ PySem.W.typeIn G.K (.ref fI) = some (.type "function") ∧ Binds G.K fd ps [] ∧ FnOk P w G.K mg base (L2.CX P w) k fI fd ps sp
theorem del_upd {H : Hp} {a : Addr} {o : HO} (h : H a = none) : del (upd H a o) a = H := by
  funext b
  by_cases e : b = a
  · rw [e, del_same, h]
  · rw [del_ne e, upd_ne e]
section
variable {S : Ent} {X : Cx} {x f : Str} {k : Nat} {e : Expr} {Te : Tm} {p pos pos2 : Pos}
def wRaise0 (x : Str) : Ts := fun env P => P.ex (x, []) env
def wRaise1 (x f : Str) (T : Tm) : Ts := fun env P => T env (fun d env1 => P.ex (x, [(f, d)]) env1) P.ex
theorem ds_raise0 (hc : X.calm = true) (hK : X.K = S.G.K) (c : ErC X.prog X.w S.G X.mg X.base x k (sp0 S.G.K)) (hr : Room (k + 1) X.A) (hg : Gl X x := by rfl) (hdb : (x == ("__debug__" : Str)) = false := by decide) :
    DS S X (.Raise (some (.Call (.Name x p) [] [] pos)) none pos2) (wRaise0 x) := ⟨fun W tk pa => by
  obtain ⟨C, fI, fd, ps, h1, h2, h3, h4, h5, h6, h7⟩ := c.ex
  rw [← hK] at h3 h4 h5 h6 h7
  refine ⟨_, ps_raise hc tk (pmk_ox0 h3 h4 h5 h7 hr h6 (passes_call tk fun _ _ _ _ z => z.elim) hg h2 hdb), fun Z env σ H P D' R hT f => ?_⟩
  intro a ha
  refine ⟨a, C, rfl, h3, upd_same, rfl, upd_same, ?_⟩
  rw [del_upd ha]
  exact f.ex σ Z env (.ref C) none (x, []) H R .refl ⟨C, h1, rfl, rfl⟩ hT⟩
theorem ds_raise1 (hc : X.calm = true) (hK : X.K = S.G.K) (c : ErC X.prog X.w S.G X.mg X.base x k (sp1 S.G.K f)) (hno : ∀ C, S.G.ET x = some C → PySem.W.findIn S.G.K (.ref C) f = some none) (hr : Room (k + 1) X.A) (ha : DE S X e Te) (hg : Gl X x := by rfl) (hdb : (x == ("__debug__" : Str)) = false := by decide)
    (he : starEach [e] X.env = (false, eval e X.env) :: starEach [] X.env := by rfl) : DS S X (.Raise (some (.Call (.Name x p) [e] [] pos)) none pos2) (wRaise1 x f Te) := ⟨fun W tk pa => by
  obtain ⟨C, fI, fd, ps, h1, h2, h3, h4, h5, h6, h7⟩ := c.ex
  rw [← hK] at h3 h4 h5 h6 h7
  obtain ⟨t, pp, q⟩ := ha.run W tk
  refine ⟨_, ps_raise hc tk (pmk_oex (ds := []) (dvs := []) h3 h4 h5 h7 hr h6 .nil (passes_call tk fun _ _ _ _ z => z.elim) hg h2 (pa_cons pp pa_nil he) hdb he rfl), fun Z env σ H P D' R hT fi => ?_⟩
  refine q Z env σ H _ _ _ R hT (fun Z1 env1 v d H1 R1 t1 r1 hq => ?_) ((fi.ex σ).ok R)
  refine ⟨by simp, fun a na => ?_⟩
  refine ⟨a, C, v, rfl, h3, by rw [hK]; exact hno C h1, upd_same, fun dx nd ne => ?_⟩
  have nd1 : H1 dx = none := by rw [upd_ne ne] at nd; exact nd
  refine ⟨rfl, dx, _, upd_same, by rw [upd_ne ne, upd_same], nd1, ?_⟩
  have eH : upd (del (upd (upd (upd H1 a (exo a C none)) dx (exd dx [(f, v)])) a (exo a C (some dx))) a) dx (.xd [(f, v)]) = upd H1 dx (.xd [(f, v)]) := by
    funext b
    by_cases hb : b = dx
    · rw [hb, upd_same, upd_same]
    · rw [upd_ne hb, upd_ne hb]
      by_cases hb2 : b = a
      · rw [hb2, del_same, na]
      · rw [del_ne hb2, upd_ne hb2, upd_ne hb, upd_ne hb2]
  rw [eH]
  have sm := same_upd (o := .xd [(f, v)]) nd1
  refine fi.ex σ Z1 env1 (.ref C) (some dx) (x, [(f, d)]) _ (R1.grow sm) ((R.vle t1).trans (R1.vle (.alloc sm))) ⟨C, h1, rfl, [(f, v)], [d], vis_out (R1.free nd1) upd_same, ?_, rfl⟩ hq
  exact .cons ((R1.vle (.alloc sm)).rep r1) .nil⟩
end
/-! ### try .. except C as n -/
theorem Rel.putPin {S : Ent} {Z : Zs} {env : Env} {σ : L2.St} {H : Hp} (R : Rel S Z env σ H) {i : Nat} {a : Addr} {dd : Option Addr} {fs : List (Str × D)} (h : ErD S.G (vis Z.O H) Z.h dd fs) : Rel S Z (env.set i (.pin a dd fs)) (σ.set i (some (.ref a))) H := by
  have R0 := R.drop1 (i := i) (v := some (.ref a))
  by_cases hi : i < env.length
  · have R1 := R0.reslot (i := i) (x := .pin a dd fs) (by rw [List.getElem?_set_self hi]) rfl ⟨by rw [List.getElem?_set_self (by rw [← R.len]; exact hi)], h⟩
    rw [List.set_set] at R1
    exact R1
  · have e1 : env.set i .no = env := List.set_eq_of_length_le (by omega)
    have e2 : env.set i (.pin a dd fs) = env := List.set_eq_of_length_le (by omega)
    rw [e1] at R0
    rw [e2]
    exact R0
def wTry (i : Nat) (B : Ts) (Bh : Addr → Option Addr → Er → Ts) : Ts := fun env P => B env { P with ex := fun er env1 => ∀ a dd, Bh a dd er (env1.set i (.pin a dd er.2)) { nx := fun e => P.nx (e.set i .no), rt := P.rt, bk := fun e => P.bk (e.set i .no), ct := fun e => P.ct (e.set i .no), ex := fun _ _ => False, rf := P.rf } }
theorem ds_try {S : Ent} {X : Cx} (i : Nat) {x n : Str} {C0 : Addr} {body suite : List Stmt} {b0 : Stmt} {np pos pos' : Pos} {B : Ts} {Bh : Addr → Option Addr → Er → Ts} (hs : X.stack = X.env :: X.outer) (hf : X.env.frame = some X.env.locals) (hN : X.N.Nodup) (hcl : ∀ y C, S.G.ET y = some C → PySem.W.exmOne X.K (.ref C) (.ref C0) = some true)
    (hm : X.mg x = some (.ref C0)) (hb : ∀ pn xe, DSs S (X.tr pn xe) body B)
    (hh : ∀ (a : Addr) (oe : Obj) (C : Addr) (dd : Option Addr) (pn : List (Addr × Obj)) (er : Er), Zc (.ref C) dd oe → (∃ vs, oe.data = .fields vs) → S.G.ET er.1 = some C → DSs S (X.suite a ((a, oe) :: pn)) (b0 :: suite) (Bh a dd er))
    (hi : X.N[i]? = some n := by rfl) (hln : X.env.kindOf n = some .local := by rfl) (hg : Gl X x := by rfl) (hdb : (x == ("__debug__" : Str)) = false := by decide) :
    DS S X (.Try body [.ExceptHandler (some (.Name x np)) (some n) (b0 :: suite) pos'] [] [] pos) (wTry i B Bh) := ⟨fun W tk pa => by
  let ts : Addr → Value → Option Addr → TS := fun a cls dd D σ H => ∃ (er : Er) (C : Addr), cls = .ref C ∧ S.G.ET er.1 = some C ∧ ∀ (oe : Obj) (pn : List (Addr × Obj)) (hz : Zc (.ref C) dd oe) (hd : ∃ vs, oe.data = .fields vs) (hc : S.G.ET er.1 = some C),
    Classical.choose ((hh a oe C dd pn er hz hd hc).run (fun _ _ _ _ => False) LamX.takes0 PassesOwn.never) D σ H
  let tb : WX → TS := fun W D σ H => ∀ pn xe (tk : Takes (X.tr pn xe) W) (pa : PassesOwn (model X.prog X.w) X.A X.env xe), Classical.choose ((hb pn xe).run W tk pa) D σ H
  refine ⟨_, ps_try_as (tb := tb) (ts := ts) hs hf hN hi hln ⟨hg, hdb, .inl hm⟩ tk (fun W pn xe tk pa => ⟨fun pins s σ H D I h => ?_⟩) (fun a oe cls dd pn hz hd => ⟨fun pins s σ H D I h => ?_⟩), fun Z env σ H P D' R hT f => ?_⟩
  · exact (Classical.choose_spec ((hb pn xe).run W tk pa)).1.run pins s σ H D I (h pn xe tk pa)
  · obtain ⟨er, C, rfl, hc, h⟩ := h
    exact (Classical.choose_spec ((hh a oe C dd pn er hz hd hc).run (fun _ _ _ _ => False) LamX.takes0 PassesOwn.never)).1.run pins s σ H D I (h oe pn hz hd hc)
  · intro pn xe tk' pa'
    refine (Classical.choose_spec ((hb pn xe).run _ tk' pa')).2 Z env σ H _ D' R hT ⟨f.nx, f.rt, f.bk, f.ct, fun σ2 Z1 env1 cls dd er H1 R1 v1 eo hx => ?_, f.rf⟩
    obtain ⟨C, h1, h2, h3⟩ := eo
    subst h2
    refine ⟨true, hcl _ _ h1, fun _ a na => ⟨er, C, rfl, h1, fun oe pn hz hd hc => ?_⟩, fun z => nomatch z⟩
    have f1 := f.on v1
    refine (Classical.choose_spec ((hh a oe C dd pn er hz hd hc).run (fun _ _ _ _ => False) LamX.takes0 PassesOwn.never)).2 Z1 _ _ H1 _ _ (R1.putPin h3) (hx a dd)
      ⟨fun Z' e s H' R' v h => ?_, f1.rt, fun Z' e s H' R' v h => ?_, fun Z' e s H' R' v h => ?_, fun _ _ _ _ _ _ _ _ _ _ h => h.elim, f1.rf⟩
    · exact f1.nx Z' _ _ H' R'.drop1 v h
    · exact f1.bk Z' _ _ H' R'.drop1 v h
    · exact f1.ct Z' _ _ H' R'.drop1 v h⟩
/-! ### a caught error looked at -/
/-- what the error classes say -/
structure ErrCls (G : Pg) : Prop where
  ec : ∀ n D, G.ET n = some D → ExcC G.K D
  xf : ∀ n D, G.ET n = some D → XfC G.K D
/-- isinstance(e, c): cv the class c, sub the errors' names that it holds -/
structure KitE (G : Pg) (cv : Value) (sub : Str → Bool) : Prop where
  at_ : ∀ n D, G.ET n = some D → PySem.W.kitOne G.K (.ref D) cv = some (sub n)
def rIsE2 (K : PySem.W.Frag) (D a : Addr) (dd : Option Addr) : List V → Hp → VK → Prop := fun xs H Q => ∃ (c : V) (cv : Value) (b : Bool), xs = [.ref a, c] ∧ (∀ u, RelV c u → u = cv) ∧ PySem.W.kitOne K (.ref D) cv = some b ∧ (∀ p, dd = some p → ∃ o, H p = some (.xd o)) ∧ Q (.bl b) H
theorem call_isE2 {X : Cx} {a D : Addr} {dd : Option Addr} {oe : Obj} {pn : List (Addr × Obj)} (C : ExcC X.K D) (hz : Zc (.ref D) dd oe) (hf : ∃ vs, oe.data = .fields vs) : CallR (X.suite a ((a, oe) :: pn)) (.builtin "isinstance") (rIsE2 X.K D a dd) := by
  intro pins s σ H xs us Q I r h
  obtain ⟨c, cv, b, rfl, hcv, ek, hp, q⟩ := h
  cases r with
  | cons rx rr =>
    cases rr with
    | cons rt rr =>
      cases rr
      cases rx
      have ec := hcv _ rt
      subst ec
      obtain ⟨hget, _⟩ := I.pin (a, oe) (List.mem_append.mpr (.inl List.mem_cons_self))
      obtain ⟨vs, hv⟩ := hf
      have hcl : (PySem.W.clsIn X.K D).isSome = true := by
        obtain ⟨cd, hc, _⟩ := PySem.W.any_some C.hd
        rw [hc]; rfl
      have nc : PySem.W.notCls oe = true := by
        unfold PySem.W.notCls
        rw [hv] <;> rfl
      have key : ∀ od : Option Obj, PySem.W.InstAt s.heap a oe D od → wpAny (model (X.suite a ((a, oe) :: pn)).prog (X.suite a ((a, oe) :: pn)).w) (X.suite a ((a, oe) :: pn)).A (call (.builtin "isinstance") [.ref a, _]) (EP (X.suite a ((a, oe) :: pn)) pins σ Q) (X.suite a ((a, oe) :: pn)).xe s := fun od J =>
        PySem.W.kia_one (PySem.W.kitx_exc hcl C.hg C.hk C.hs C.ha C.hn C.ht C.hm) I.kIn J ek (fun z => nomatch z) fun tk => ⟨.bl b, H, I.kept (t' := tk) fun _ _ z => z, rfl, q⟩
      cases dd with
      | none =>
        refine key none ⟨hget, hz.1, nc, ?_⟩
        rw [hz.2]
        trivial
      | some p =>
        obtain ⟨o, ho⟩ := hp p rfl
        have hx : ObjOk X.prog X.w H s.heap p (.xd o) := I.hok p _ ho
        obtain ⟨mA, hns, _⟩ := hx
        obtain ⟨od, hod, _⟩ := lookIn_ns hns
        refine key (some od) ⟨hget, hz.1, nc, ?_⟩
        rw [hz.2]
        exact hod
def wIsE (i : Nat) (a : Addr) (dd : Option Addr) (er : Er) (sub : Str → Bool) : Tm := fun env Q _ => env[i]? = some (.pin a dd er.2) ∧ Q (.bl (sub er.1)) env
def wErF (i : Nat) (a : Addr) (dd : Option Addr) (er : Er) (f : Str) : Tm := fun env Q _ => env[i]? = some (.pin a dd er.2) ∧ ∃ d, er.2.lookup f = some d ∧ Q d env
theorem zip_lookup {G : Pg} {H : Hp} {hh : Option Addr} {f : Str} {d : D} : ∀ {vfs : List (Str × V)} {ds : List D}, RepL G H hh (vfs.map (·.2)) ds → ((vfs.map (·.1)).zip ds).lookup f = some d → ∃ v, vfs.lookup f = some v ∧ Rep G H hh v d
  | [], ds, r, e => by
    cases r
    cases e
  | (g, v) :: vfs, ds, r, e => by
    cases r with
    | cons r1 r2 =>
      rw [List.map_cons, List.zip_cons_cons, List.lookup_cons] at e
      rw [List.lookup_cons]
      by_cases q : (f == g) = true
      · rw [q] at e ⊢
        cases e
        exact ⟨v, rfl, r1⟩
      · rw [Bool.not_eq_true] at q
        rw [q] at e ⊢
        exact zip_lookup r2 e
section
variable {S : Ent} {X : Cx} {a D : Addr} {dd : Option Addr} {oe : Obj} {pn : List (Addr × Obj)} {er : Er} {n cn f : Str} {p p1 p2 pos : Pos}
theorem dx_isE (i : Nat) {cv : Value} {cV : V} {sub : Str → Bool} (hK : X.K = S.G.K) (ec : ErrCls S.G) (hz : Zc (.ref D) dd oe) (hf : ∃ vs, oe.data = .fields vs) (hD : S.G.ET er.1 = some D) (ke : KitE S.G cv sub) (hm : X.mg "isinstance" = none) (hv : bootBuiltins "isinstance" = some (.builtin "isinstance"))
    (pc : PE (X.suite a ((a, oe) :: pn)) (.Name cn p2) (tC cV)) (rc : ∀ u, RelV cV u → u = cv) (hN : X.N[i]? = some n := by rfl) (hvi : Vis X.env.scope n := by first | exact Or.inl rfl | exact Or.inr (Or.inl rfl) | exact Or.inr (Or.inr rfl)) (hg : Gl X "isinstance" := by rfl)
    (hd : (n == ("__debug__" : Str)) = false := by decide) (hcd : (n == ("__classdict__" : Str)) = false := by decide) :
    DE S (X.suite a ((a, oe) :: pn)) (.Call (.Name "isinstance" p) [.Name n p1, .Name cn p2] [] pos) (wIsE i a dd er sub) := ⟨fun W tk => by
  have ex := ec.ec _ _ hD
  have kk := ke.at_ _ _ hD
  rw [← hK] at ex kk
  refine ⟨_, pe_callB (call_isE2 ex hz hf) hg hm hv (pa_cons (pe_var (i := i) hN hvi hd hcd) (pa_cons pc pa_nil rfl) rfl) (by decide) (by decide) rfl rfl, fun Z env σ H Q E Q' R hT k x => ?_⟩
  obtain ⟨e0, hq⟩ := hT
  have sl := R.slots i _ e0
  refine ⟨.ref a, sl.1, ?_⟩
  refine ⟨cV, cv, _, rfl, rc, kk, fun q hq => ?_, k Z env _ _ H R .refl (.bl _) hq⟩
  subst hq
  obtain ⟨vfs, ds, h1, _⟩ := sl.2
  exact ⟨vfs, (vis_some h1).2⟩⟩
theorem dx_erF (i : Nat) (hK : X.K = S.G.K) (ec : ErrCls S.G) (hz : Zc (.ref D) dd oe) (hf : ∃ vs, oe.data = .fields vs) (hD : S.G.ET er.1 = some D) (hno : ∀ y C, S.G.ET y = some C → PySem.W.findIn S.G.K (.ref C) f = some none)
    (hN : X.N[i]? = some n := by rfl) (hvi : Vis X.env.scope n := by first | exact Or.inl rfl | exact Or.inr (Or.inl rfl) | exact Or.inr (Or.inr rfl)) (hd : (n == ("__debug__" : Str)) = false := by decide) (hcd : (n == ("__classdict__" : Str)) = false := by decide) :
    DE S (X.suite a ((a, oe) :: pn)) (.Attribute (.Name n p1) f pos) (wErF i a dd er f) := ⟨fun W tk => by
  have ex := ec.xf _ _ hD
  have kk := hno _ _ hD
  rw [← hK] at ex kk
  refine ⟨_, pe_xf ex kk hz hf (pe_var (i := i) hN hvi hd hcd), fun Z env σ H Q E Q' R hT k x => ?_⟩
  obtain ⟨e0, d, hl, hq⟩ := hT
  have sl := R.slots i _ e0
  refine ⟨.ref a, sl.1, rfl, rfl, ?_⟩
  cases dd with
  | none =>
    have z : er.2 = [] := sl.2
    rw [z] at hl
    cases hl
  | some q =>
    obtain ⟨vfs, ds, h1, h2, h3⟩ := sl.2
    rw [h3] at hl
    obtain ⟨v, h4, h5⟩ := zip_lookup h2 hl
    exact ⟨q, vfs, v, rfl, (vis_some h1).2, h4, k Z env _ _ H R .refl h5 hq⟩⟩
end
/-! ### xs.count(y), xs.index(y): flat items -/
def flD : D → Bool
  | .non => true
  | .bl _ => true
  | .int _ => true
  | .str _ => true
  | _ => false
theorem flat_rep {G : Pg} {Z : Zs} {H : Hp} {v : V} {d : D} (r : RB G Z H v d) (f : flD d = true) : flatV v = true ∧ (∀ v2 d2, RB G Z H v2 d2 → flD d2 = true → eqV v v2 = eqD d d2) := by
  cases d with
  | non =>
    rw [r.non]
    refine ⟨rfl, fun v2 d2 r2 f2 => ?_⟩
    cases d2 with
    | non => rw [r2.non]; unfold eqD; rw [pd, PyData.eqv]; rfl
    | bl b => rw [r2.bl]; unfold eqD; rw [pd, pd, PyData.eqv]; rfl
    | int b => rw [r2.int]; unfold eqD; rw [pd, pd, PyData.eqv]; rfl
    | str b => rw [r2.str]; unfold eqD; rw [pd, pd, PyData.eqv]; rfl
    | _ => cases f2
  | bl c =>
    rw [r.bl]
    refine ⟨rfl, fun v2 d2 r2 f2 => ?_⟩
    cases d2 with
    | non => rw [r2.non]; unfold eqD; rw [pd, pd, PyData.eqv]; rfl
    | bl b => rw [r2.bl]; unfold eqD; rw [pd, pd, PyData.eqv]; rfl
    | int b => rw [r2.int]; unfold eqD; rw [pd, pd, PyData.eqv]; rfl
    | str b => rw [r2.str]; unfold eqD; rw [pd, pd, PyData.eqv]; rfl
    | _ => cases f2
  | int c =>
    rw [r.int]
    refine ⟨rfl, fun v2 d2 r2 f2 => ?_⟩
    cases d2 with
    | non => rw [r2.non]; unfold eqD; rw [pd, pd, PyData.eqv]; rfl
    | bl b => rw [r2.bl]; unfold eqD; rw [pd, pd, PyData.eqv]; rfl
    | int b => rw [r2.int]; unfold eqD; rw [pd, pd, PyData.eqv]; rfl
    | str b => rw [r2.str]; unfold eqD; rw [pd, pd, PyData.eqv]; rfl
    | _ => cases f2
  | str c =>
    rw [r.str]
    refine ⟨rfl, fun v2 d2 r2 f2 => ?_⟩
    cases d2 with
    | non => rw [r2.non]; unfold eqD; rw [pd, pd, PyData.eqv]; rfl
    | bl b => rw [r2.bl]; unfold eqD; rw [pd, pd, PyData.eqv]; rfl
    | int b => rw [r2.int]; unfold eqD; rw [pd, pd, PyData.eqv]; rfl
    | str b => rw [r2.str]; unfold eqD; rw [pd, pd, PyData.eqv]; rfl
    | _ => cases f2
  | _ => cases f
theorem flat_repL {G : Pg} {Z : Zs} {H : Hp} {y : V} {e : D} (ry : RB G Z H y e) (fe : flD e = true) : ∀ {vs : List V} {ds : List D}, RepL G (vis Z.O H) Z.h vs ds → ds.all flD = true → vs.all flatV = true ∧ vs.countP (fun z => eqV z y) = ds.countP (fun z => eqD z e) ∧
    ∀ (i : Nat) (v : V) (d : D), vs[i]? = some v → ds[i]? = some d → eqV v y = eqD d e
  | _, _, .nil, _ => ⟨rfl, rfl, fun i v d h => by simp at h⟩
  | _, _, .cons (v := v) (d := d) r rs, f => by
    rw [List.all_cons, Bool.and_eq_true] at f
    obtain ⟨h1, h2, h3⟩ := flat_repL ry fe rs f.2
    obtain ⟨g1, g2⟩ := flat_rep (.inl r) f.1
    have e1 := g2 y e ry fe
    refine ⟨by rw [List.all_cons, g1, h1]; rfl, by rw [List.countP_cons, List.countP_cons, h2, e1], fun i v' d' q1 q2 => ?_⟩
    match i with
    | 0 => cases q1; cases q2; exact e1
    | i + 1 => exact h3 i v' d' (by simpa using q1) (by simpa using q2)
def rCntF (K : PySem.W.Frag) : V → List V → Hp → VK → Prop := fun x xs H Q => ∃ (a : Addr) (ys : List V) (y : V), x = .ref a ∧ xs = [y] ∧ SqL K H a ys ∧ flatV y = true ∧ ys.all flatV = true ∧ Q (.int (ys.countP fun z => eqV z y : Nat)) H
theorem count_of {y : V} : ∀ {ys : List V} {us : List Value}, Vals ys us → ys.all flatV = true → us.countP (eqU y) = ys.countP fun z => eqV z y
  | _, _, .nil, _ => rfl
  | _, _, .cons r t, f => by
    rw [List.all_cons, Bool.and_eq_true] at f
    rw [List.countP_cons, List.countP_cons, count_of t f.2, eqU_of r f.1]
theorem mt_countF {X : Cx} : MtR X "list.count" (rCntF X.K) := by
  intro pins s σ H x xs v us Q I rx rxs h
  obtain ⟨a, ys, y, rfl, rfl, hs, fy, fys, q⟩ := h
  cases rx
  cases rxs with
  | cons ry rt =>
    rename_i uy ut
    cases rt
    obtain ⟨its, rv, ⟨⟨cls, dd, data, sl⟩, n, ho, hc, hdn, hd⟩, hlen⟩ := I.list hs
    simp only at hc hd
    subst hc hd
    refine call_meets PySem.F.slot_list_count ⟨_, ho, rfl⟩ PySem.F.entry_list_count (PySem.F.args_list_count_2 _ _)
      (SeqAt.list_countAt a its.toArray n dd sl uy (eqU y)) ⟨ho, fun u' hu' => mem_eqAt ry fy rv fys u' (by simpa using hu'), ?_⟩
    refine ⟨.int (ys.countP fun z => eqV z y : Nat), H, I.tok _, ⟨s.toks, ?_⟩, q⟩
    have e1 : its.toArray.toList.countP (eqU y) = ys.countP fun z => eqV z y := count_of rv fys
    show Value.int ((its.toArray.toList.countP (eqU y) : Nat) : Int) s.toks = _
    rw [e1]
def wLM (g : D → D → (D → Prop) → Prop) (Ta Tb : Tm) : Tm := fun env Q E => Ta env (fun x env1 => (∃ xs, x = .lst xs) ∧ Tb env1 (fun y env2 => g x y fun z => Q z env2) E) E
def gCnt : D → D → (D → Prop) → Prop := fun x y Q => match x with
  | .lst xs => flD y = true ∧ xs.all flD = true ∧ Q (.int (xs.countP fun z => eqD z y : Nat))
  | _ => False
def gIdx : D → D → (D → Prop) → Prop := fun x y Q => match x with
  | .lst xs => flD y = true ∧ xs.all flD = true ∧ ∃ j : Nat, xs.findIdx? (fun z => eqD z y) = some j ∧ Q (.int (j : Nat))
  | _ => False
section
variable {S : Ent} {X : Cx} {a b : Expr} {Ta Tb : Tm} {apos cpos : Pos}
theorem dx_cnt (hK : X.K = S.G.K) (ha : DB S X a Ta) (hb : DB S X b Tb) (hbase : attributeBase a "count" X.env (eval a X.env) = eval a X.env := by rfl)
    (hfew : ((backTo cpos (starEach [b] X.env)).all (fun x => !x.1) && (backToKw cpos (keywordEach [] X.env)).all (fun x => x.1.isSome) && decide (([b] : List Expr).length + ([] : List Keyword).length + (if ([] : List Keyword).isEmpty then 0 else 1) < 30)) = true := by rfl)
    (hline : (apos.endLine == cpos.line) = true := by rfl) (hs : starEach [b] X.env = (false, eval b X.env) :: starEach [] X.env := by rfl) : DE S X (.Call (.Attribute a "count" apos) [b] [] cpos) (wLM gCnt Ta Tb) := ⟨fun W tk => by
  obtain ⟨ta, pa, ra⟩ := ha.run W tk
  obtain ⟨tb, pb, rb⟩ := hb.run W tk
  refine ⟨_, pe_bm PySem.F.plainAttrs_list PySem.F.slot_list_count PySem.F.type_list_count mt_countF pa (pa_cons pb pa_nil hs) hbase hfew hline hs rfl, fun Z env σ H Q E Q' R hT k x => ?_⟩
  refine ra Z env σ H _ E _ R hT (fun Z1 env1 v d H1 R1 t1 r1 h1 => ?_) x
  obtain ⟨⟨xs, rfl⟩, h1⟩ := h1
  obtain ⟨p, vs, rfl, ep, rp⟩ := r1.lst
  refine ⟨.inl ⟨rfl, vs, SqL.of ep⟩, ?_⟩
  refine rb Z1 env1 σ H1 _ E _ R1 h1 (fun Z2 env2 y e H2 R2 t2 r2 h2 => ?_) (x.on R1 t1)
  obtain ⟨fe, fx, h2⟩ := h2
  obtain ⟨p', vs', ep, e2, rp2⟩ := (r1.on R1 t2).lst
  cases ep
  obtain ⟨g1, g2, _⟩ := flat_repL r2 fe rp2 fx
  refine ⟨p, vs', y, rfl, rfl, SqL.of e2, (flat_rep r2 fe).1, g1, ?_⟩
  rw [g2]
  exact k Z2 env2 _ _ H2 R2 (Tr.trans R1 t1 t2) (.int _) h2⟩
theorem dx_idx (hK : X.K = S.G.K) (ha : DB S X a Ta) (hb : DB S X b Tb) (hbase : attributeBase a "index" X.env (eval a X.env) = eval a X.env := by rfl)
    (hfew : ((backTo cpos (starEach [b] X.env)).all (fun x => !x.1) && (backToKw cpos (keywordEach [] X.env)).all (fun x => x.1.isSome) && decide (([b] : List Expr).length + ([] : List Keyword).length + (if ([] : List Keyword).isEmpty then 0 else 1) < 30)) = true := by rfl)
    (hline : (apos.endLine == cpos.line) = true := by rfl) (hs : starEach [b] X.env = (false, eval b X.env) :: starEach [] X.env := by rfl) : DE S X (.Call (.Attribute a "index" apos) [b] [] cpos) (wLM gIdx Ta Tb) := ⟨fun W tk => by
  obtain ⟨ta, pa, ra⟩ := ha.run W tk
  obtain ⟨tb, pb, rb⟩ := hb.run W tk
  refine ⟨_, pe_bm PySem.F.plainAttrs_list PySem.F.slot_list_index PySem.F.type_list_index mt_index pa (pa_cons pb pa_nil hs) hbase hfew hline hs rfl, fun Z env σ H Q E Q' R hT k x => ?_⟩
  refine ra Z env σ H _ E _ R hT (fun Z1 env1 v d H1 R1 t1 r1 h1 => ?_) x
  obtain ⟨⟨xs, rfl⟩, h1⟩ := h1
  obtain ⟨p, vs, rfl, ep, rp⟩ := r1.lst
  refine ⟨.inl ⟨rfl, vs, SqL.of ep⟩, ?_⟩
  refine rb Z1 env1 σ H1 _ E _ R1 h1 (fun Z2 env2 y e H2 R2 t2 r2 h2 => ?_) (x.on R1 t1)
  obtain ⟨fe, fx, j, hj, h2⟩ := h2
  obtain ⟨p', vs', ep, e2, rp2⟩ := (r1.on R1 t2).lst
  cases ep
  obtain ⟨g1, _, g3⟩ := flat_repL r2 fe rp2 fx
  obtain ⟨hjl, hj1, hj2⟩ := List.findIdx?_eq_some_iff_getElem.mp hj
  have hl := rp2.length
  have hv : vs'[j]? = some vs'[j] := List.getElem?_eq_getElem (by omega)
  refine ⟨p, vs', y, j, vs'[j], rfl, rfl, SqL.of e2, (flat_rep r2 fe).1, g1, hv, ?_, fun m z' hm hz => ?_, k Z2 env2 _ _ H2 R2 (Tr.trans R1 t1 t2) (.int _) h2⟩
  · rw [g3 j _ _ hv (List.getElem?_eq_getElem hjl)]; exact hj1
  · rw [g3 m _ _ hz (List.getElem?_eq_getElem (by omega))]
    have := hj2 m hm
    simpa using this⟩
end
end DV

set_option Elab.async false
set_option linter.all false
set_option maxRecDepth 100000
set_option maxHeartbeats 2100000
/-! DVL: a lambda handed to a def, the tables kept, an error of the call told at the caller's slots. -/
namespace DV
open PySem PySem.Spec PyProof.Rows L2 LamX
/-- as ExtN, and tables stay tables -/
def ExtT (H H' : Hp) : Prop := ExtN H H' ∧ ∀ b ps, H b = some (.tbl ps) → ∃ ps', H' b = some (.tbl ps')
section
variable {X : Cx} {pz : List (Addr × Obj)} {σ : L2.St} {H : Hp} {s : Shared}
theorem lam_make3 {T : List (Addr × Str)} {c P : Addr} {pa : Arguments} {bd : Expr} {sc : Scope} {lp : Pos} {E : Value → Shared → Prop} {Q : Value → Shared → Prop} (I : Inv X pz σ H s) (B : TabB X.base X.mg c P) (hc : X.env.code = .ref c)
    (mT : (P, X.env.qual ++ "<lambda>") ∈ T) (uT : ∀ p ∈ T, p.1 = P → p.2 = X.env.qual ++ "<lambda>") (tT : Tabs T H) (nd : defaultsOf pa X.env = ([], [])) (fr : ∀ y ∈ sc.names, y.2 = .free → ∃ c, X.env.cells.lookup y.1 = some c)
    (k : ∀ (f c' : Addr) (pm ctv : Value) (H1 : Hp) (s1 : Shared), Inv X pz σ H1 s1 → ExtT H H1 → Tabs T H1 →
      s1.heap.get? f = some (PySem.W.kla_obj "<lambda>" (X.env.qual ++ "<lambda>") pa bd sc (cloFrom X.env.cells sc.names []) pm c' ctv) → H1 f = none → f ∉ frs X.stack → H1 c' = some (CodeO c' (X.env.qual ++ "<lambda>")) → Q (.ref f) s1) :
    wpAny (model X.prog X.w) X.A (eval (.Lambda pa bd sc lp) X.env) Q E s := by
  obtain ⟨qs, eP, tr, am⟩ := tT _ mT
  have gP : s.heap.get? P = some { cls := .none, data := .fields qs } := I.hok P _ eP
  have far : ∀ g, s.heap.objs.size ≤ g → g ∉ frs X.stack := fun g lg z => by
    rcases List.mem_cons.mp (I.stkSub g z) with e | e
    · have l := I.lt
      rw [← e] at l
      exact Nat.lt_irrefl _ (Nat.lt_of_lt_of_le l lg)
    · exact I.nofs lg e
  refine PySem.W.kla_eval nd ?_
  cases eA : codeAmong lp qs.toList with
  | some cv =>
    obtain ⟨c', rfl, co⟩ := am lp cv eA
    refine PySem.W.kla_makeFunctionHit (mg := X.mg) (c := c) (P := P) (ps := qs) (closure_ok fr) I.ok.glob (I.mod.glob.keeps I.bk) hc (B.code.keeps I.bk) gP tr eA (B.bm.keeps I.bk) fun ctv hh tk xx sz => ?_
    have J : Inv X pz σ H { s with heap := hh.push (PySem.W.kla_obj "<lambda>" (X.env.qual ++ "<lambda>") pa bd sc (cloFrom X.env.cells sc.names []) ((X.mg "__name__").getD .none) c' ctv), toks := tk } := I.kept fun b o e => Heap.get?_push_of_some _ (xx b o e)
    exact k hh.objs.size c' ((X.mg "__name__").getD .none) ctv H _ J ⟨ExtN.refl H, fun b ps e => ⟨ps, e⟩⟩ tT (Heap.get?_push_size _ rfl) (I.hok.fresh sz) (far _ sz) co
  | none =>
    refine PySem.W.kla_makeFunction (mg := X.mg) (c := c) (P := P) (ps := qs) (closure_ok fr) I.ok.glob (I.mod.glob.keeps I.bk) hc (B.code.keeps I.bk) gP tr eA B.gP (B.bm.keeps I.bk) fun c' ctv hh tk xx ge lt rec tb => ?_
    obtain ⟨c2, oc, vs, t, e2, g1, g2, g3⟩ := rec
    cases e2
    have sz : s.heap.objs.size ≤ hh.objs.size := Nat.le_trans ge (Nat.le_of_lt lt)
    have nC : H c' = none := I.hok.fresh ge
    have J := inv_table (t' := tk) (more := #[rawInt lp.line, rawInt lp.col, .ref c']) (h' := hh.push (PySem.W.kla_obj "<lambda>" (X.env.qual ++ "<lambda>") pa bd sc (cloFrom X.env.cells sc.names []) ((X.mg "__name__").getD .none) c' ctv)) I eP
      (fun b o n e => Heap.get?_push_of_some _ (xx b o n e)) (Heap.get?_push_of_some _ tb) ge ⟨oc, vs, t, Heap.get?_push_of_some _ g1, g2, g3⟩
    have nPc : P ≠ c' := ne_of_none eP nC
    have eT : upd (upd H P (.tbl (qs ++ #[rawInt lp.line, rawInt lp.col, .ref c']))) c' (CodeO c' (X.env.qual ++ "<lambda>")) P = some (.tbl (qs ++ #[rawInt lp.line, rawInt lp.col, .ref c'])) := by rw [upd_ne nPc, upd_same]
    have xN : ExtN H (upd (upd H P (.tbl (qs ++ #[rawInt lp.line, rawInt lp.col, .ref c']))) c' (CodeO c' (X.env.qual ++ "<lambda>"))) := fun b o e n => by
      rw [upd_ne (ne_of_none e nC), upd_ne (fun z => n qs (Option.some.inj (e.symm.trans (by rw [z]; exact eP))))]
      exact e
    have snoc : (qs ++ #[rawInt lp.line, rawInt lp.col, .ref c']).toList = qs.toList ++ [rawInt lp.line, rawInt lp.col, .ref c'] := by simp
    refine k hh.objs.size c' ((X.mg "__name__").getD .none) ctv _ _ J ⟨xN, fun b ps e => ?_⟩ (fun p hp => ?_) (Heap.get?_push_size _ rfl) ?_ (far _ sz) upd_same
    · by_cases hb : b = P
      · rw [hb]; exact ⟨_, eT⟩
      · exact ⟨ps, by rw [upd_ne (ne_of_none e nC), upd_ne hb]; exact e⟩
    · by_cases hb : p.1 = P
      · rw [uT p hp hb, hb]
        refine ⟨_, eT, by rw [snoc]; exact PySem.TriplesOk_snoc _ _ _ _ tr, fun q cv hcv => ?_⟩
        rw [snoc] at hcv
        rcases among_app _ tr hcv with z | z
        · obtain ⟨c0, e1, e2⟩ := am q cv z
          exact ⟨c0, e1, xN _ _ e2 codeO_ne⟩
        · exact ⟨c', z, upd_same⟩
      · obtain ⟨rs, a1, a2, a3⟩ := tT p hp
        refine ⟨rs, by rw [upd_ne (ne_of_none a1 nC), upd_ne hb]; exact a1, a2, fun q cv hcv => ?_⟩
        obtain ⟨c0, e1, e2⟩ := a3 q cv hcv
        exact ⟨c0, e1, xN _ _ e2 codeO_ne⟩
    · rw [upd_ne (Nat.ne_of_gt lt), upd_ne (Nat.ne_of_gt (Nat.lt_of_lt_of_le (Heap.lt_size gP) sz))]
      exact I.hok.fresh sz
/-- y(), in the def that got the lambda; an error of it is told at the slots there -/
theorem act2 {CXh : CXT} {Eh : XK} {Nh : List Str} {qh : Str} {sh : Scope} {g f c' : Addr} {cdh pm ctv : Value} {pa : Arguments} {bd : Expr} {sc : Scope} {k i : Nat} {a : Str} {pn : List (Addr × Obj)} {xe : Value → Shared → Prop} {W : WX} {tb : XK → TE} {p1 p2 : Pos}
    (I : Inv X pz σ H s) (L : LamS X.env.scope sc) (hf : s.heap.get? f = some (PySem.W.kla_obj "<lambda>" (X.env.qual ++ "<lambda>") pa bd sc (cloFrom X.env.cells sc.names []) pm c' ctv)) (nf : H f = none) (ff : f ∉ frs X.stack)
    (hb : bindArgs (PySem.W.kla_fn "<lambda>" (X.env.qual ++ "<lambda>") pa bd sc (cloFrom X.env.cells sc.names []) pm (.ref c') ctv) ⟨[], []⟩ = pure [])
    (tk : Takes ((cxOf CXh X.prog X.w X.K X.mg X.base Nh qh sh g cdh X.A X.stack s H Eh).tr pn xe) W) (hr : Room (k + 1) (X.A.deeper (envOfC qh sh s.heap.objs.size g cdh)))
    (hbd : ∀ (E : XK) (A : Around) (outer : List PySem.Env) (s : Shared) (H : Hp), Room k (A.deeper (lamEnv X sc s.heap.objs.size f c')) → PE (lamCx X A outer s H E sc f c') bd (tb E))
    (hN : Nh[i]? = some a) (hv : Vis sh a) (hd : (a == ("__debug__" : Str)) = false := by decide) (hcd : (a == ("__classdict__" : Str)) = false := by decide) :
    PE ((cxOf CXh X.prog X.w X.K X.mg X.base Nh qh sh g cdh X.A X.stack s H Eh).tr pn xe) (.Call (.Name a p1) [] [] p2)
      (fun σY HY Q => σY[i]? = some (some (.ref f)) ∧ HY c' = some (CodeO c' (X.env.qual ++ "<lambda>")) ∧ ∃ E : XK, (∀ cls d H', E cls d H' → W cls d σY H') ∧ tb E σ HY Q) := by
  refine ⟨fun pinsY sY σY HY Q IY h => ?_⟩
  obtain ⟨hs, hco, E, hE, hT0⟩ := h
  have nm := (pe_var (X := (cxOf CXh X.prog X.w X.K X.mg X.base Nh qh sh g cdh X.A X.stack s H Eh).tr pn xe) (pos := p1) (i := i) hN hv hd hcd).run pinsY sY σY HY (fun v H1 => v = .ref f ∧ H1 = HY) IY ⟨.ref f, hs, rfl, rfl⟩
  refine wpAny_Call_Name_kw (thn nm fun u s1 ⟨v, H1, J1, r1, q1⟩ => ?_)
  obtain ⟨rfl, rfl⟩ := q1
  obtain rfl : u = Value.ref f := r1
  have of2 : s1.heap.get? f = some (PySem.W.kla_obj "<lambda>" (X.env.qual ++ "<lambda>") pa bd sc (cloFrom X.env.cells sc.names []) pm c' ctv) := J1.base.keep f _ hf nf ff (fun z => nomatch (show f ∈ ([] : List Addr) from z))
  have un : Un (frs X.stack) [] H H1 s.heap s1.heap := J1.base
  obtain ⟨⟨oc, vs, t, g1, g2, g3⟩, _, _⟩ := J1.hok c' _ hco
  refine PySem.W.callWith_F0 ⟨_, _, _, _, of2⟩ ?_
  have run0 : codeAny (model X.prog X.w) (X.A.deeper (envOfC qh sh s.heap.objs.size g cdh)) (.call (.ref f) ⟨[], []⟩) (CR (L2.CX X.prog X.w) (envOfC qh sh s.heap.objs.size g cdh :: X.stack) X.prog X.w H1 s1 Q E) s1 := by
    refine PySem.W.kla_callFunE hr.depth of2 rfl L.co L.gen rfl ⟨c', oc, vs, t, rfl, g1, g2, g3⟩ ?_
    rw [hb]
    refine wpAny_pure (wpAny_newFunctionEnv (fun y hy0 => (L.own y hy0).2) (fun y hy0 => absurd hy0 (by simp)) (fun h2 hnt hsc => ⟨J1.nolimit.fresh _ hsc, ?_⟩) L.kind)
    show codeAny _ _ (.expr bd (lamEnv X sc s1.heap.objs.size f c')) _ _
    have J : Inv (lamCx X (X.A.deeper (envOfC qh sh s.heap.objs.size g cdh)) (envOfC qh sh s.heap.objs.size g cdh :: X.stack) s1 H1 E sc f c') [] σ H1 { s1 with heap := h2, toks := s1.toks + ([] : List (Str × Value)).length } :=
      lam_start2 I L J1.env0 hr.hd un hnt fun b o e => hsc.extBut b o (Nat.ne_of_lt (Heap.lt_size e)) (Heap.get?_push_of_some _ e)
    refine PySem.W.kla_codeExpr (wpAny_mono ((hbd E _ _ s1 H1 (hr.deeper _)).run [] _ _ H1 Q J hT0) (fun v s' gq => ?_) fun e s' gq => gq)
    obtain ⟨w', H', J', rv, q⟩ := gq
    exact ⟨w', H', J'.os, J'.bare, J'.base, J'.hok, rv, q⟩
  refine wpAny_call (codeAny_mono run0 fun r s' gq => ?_)
  cases r with
  | error e => exact tk e s' (XE.of_call J1 hE gq)
  | ok fl =>
    cases fl with
    | ret u => exact J1.after gq
    | next => exact gq.elim
    | brk => exact gq.elim
    | cont => exact gq.elim
/-- what a def makes of a thing to be called: ty0 tells the thing's way, TT the def's -/
def GivesE (X : Cx) (Nh : List Str) (x : Str) (sh : Scope) (g : Addr) (cdh : Value) (bg : List Stmt) (a : Str) (q : Str) (TT : (XK → Hp → VK → Prop) → Hp → VK → Prop) : Prop :=
  ∀ (f c' : Addr) (s : Shared) (H : Hp) (Q : VK) (ty0 : XK → Hp → VK → Prop),
    (∀ (W : WX) (pn : List (Addr × Obj)) (xe : Value → Shared → Prop) (p1 p2 : Pos), Takes ((cxOf C8.CX0 X.prog X.w X.K X.mg X.base Nh x sh g cdh X.A X.stack s H C8.E0).tr pn xe) W →
      PE ((cxOf C8.CX0 X.prog X.w X.K X.mg X.base Nh x sh g cdh X.A X.stack s H C8.E0).tr pn xe) (.Call (.Name a p1) [] [] p2) (fun σY HY Q => σY[0]? = some (some (.ref f)) ∧ HY c' = some (CodeO c' q) ∧ ∃ E : XK, (∀ cls d H', E cls d H' → W cls d σY H') ∧ ty0 E HY Q)) →
    Room 1 (X.A.deeper (envOfC x sh s.heap.objs.size g cdh)) → H c' = some (CodeO c' q) → TT ty0 H Q →
    ∃ t, PSs (cxOf C8.CX0 X.prog X.w X.K X.mg X.base Nh x sh g cdh X.A X.stack s H C8.E0).nox bg t ∧ t { nx := fun _ H' => Q .non H', rt := Q } (L2.start Nh [.ref f]) H
def tLamE (T : List (Addr × Str)) (TT : (XK → Hp → VK → Prop) → Hp → VK → Prop) (t : XK → TE) : TE := fun σ H Q => Tabs T H ∧ ∀ H1, ExtT H H1 → Tabs T H1 → TT (fun E H' Q' => t E σ H' Q') H1 Q
end
theorem pe_lamE {X : Cx} {T : List (Addr × Str)} {TT : (XK → Hp → VK → Prop) → Hp → VK → Prop} {x a : Str} {g c P : Addr} {k : Nat} {pg : Arguments} {bg : List Stmt} {sh : Scope} {dV kV doc pm cdv ct oc : Value} {an od : Option Addr} {osl : Array (Option Value)} {Nh : List Str}
    {pa : Arguments} {bd : Expr} {sc : Scope} {t : XK → TE} {p lp pos : Pos} (hg : Gl X x) (hm : X.mg x = some (.ref g)) (hk : PySem.W.keepIn X.K (.ref g) = true)
    (lk : X.K.lookup g = some ⟨oc, od, .func (PySem.W.fnOf x x pg bg sh dV kV doc pm an cdv ct), osl⟩) (cg : PySem.W.codeIn X.K cdv x = true) (hb : L2.Binds X.K (PySem.W.fnOf x x pg bg sh dV kV doc pm an cdv ct) [a] []) (Sg : FnScope Nh [a] sh) (n0 : Nh[0]? = some a) (va : Vis sh a)
    (hG : GivesE X Nh x sh g cdv bg a (X.env.qual ++ "<lambda>") TT) (B : TabB X.base X.mg c P) (hc : X.env.code = .ref c) (mT : (P, X.env.qual ++ "<lambda>") ∈ T) (uT : ∀ p ∈ T, p.1 = P → p.2 = X.env.qual ++ "<lambda>") (hr : Room (k + 2) X.A)
    (L : LamS X.env.scope sc) (nd : defaultsOf pa X.env = ([], [])) (bi : ∀ (q : Str) (cl : List (Str × Addr)) (pm cv ctv : Value), bindArgs (PySem.W.kla_fn "<lambda>" q pa bd sc cl pm cv ctv) ⟨[], []⟩ = pure [])
    (hbd : ∀ (A : Around) (outer : List PySem.Env) (s : Shared) (H : Hp) (E : XK) (f c' : Addr), Room k (A.deeper (lamEnv X sc s.heap.objs.size f c')) → PE (lamCx X A outer s H E sc f c') bd (t E))
    (hdb : (x == ("__debug__" : Str)) = false := by decide) (hd : (a == ("__debug__" : Str)) = false := by decide) (hcd : (a == ("__classdict__" : Str)) = false := by decide) : PE X (.Call (.Name x p) [.Lambda pa bd sc lp] [] pos) (tLamE T TT t) := by
  refine ⟨fun pz s σ H Q I h => ?_⟩
  obtain ⟨tT, h⟩ := h
  refine wpAny_Call_Name_kw (ld_glob I hg hm ?_ hdb)
  refine PySem.W.callWith_K (h₀ := X.base) I.ok.mod.kin hk ?_ (by rfl) (by rfl)
  show wpAny _ _ (spliced ((false, eval (.Lambda pa bd sc lp) X.env) :: backTo pos (starEach [] X.env))) _ _ s
  refine Calls.spliced_cons (lam_make3 I B hc mT uT tT nd (L.has I.ok) fun f c' pm' ctv H1 s1 J1 xT T1 hf nf ff co => ?_)
  refine Calls.spliced_nil ⟨J1.kIn, ?_⟩
  have run0 : codeAny (model X.prog X.w) X.A (.call (.ref g) ⟨[.ref f], []⟩) (CR C8.CX0 X.stack X.prog X.w H1 s1 Q C8.E0) s1 := by
    refine run_ofS (N := Nh) (ps := [a]) (us := [.ref f]) (vs := [.ref f]) lk cg Sg hr J1.env0 (hb s1 [.ref f] J1.kIn rfl) (.cons rfl .nil) rfl fun hr' => ?_
    obtain ⟨t2, ht2, hq2⟩ := hG f c' s1 H1 Q (fun E H' Q' => t E σ H' Q') (fun W pn xe p1 p2 tk => act2 (i := 0) J1 L hf nf ff (bi _ _ _ _ _) tk hr' (fun E A outer s H hr2 => hbd A outer s H E f c' hr2) n0 va hd hcd) (hr'.mono (Nat.le_add_left 1 k)) co (h H1 xT T1)
    exact ⟨t2, ht2.nox, hq2⟩
  refine wpAny_call (codeAny_mono run0 fun r s2 gq => ?_)
  cases r with
  | error e => exact (show False from gq).elim
  | ok fl =>
    cases fl with
    | ret u => exact J1.after gq
    | next => exact gq.elim
    | brk => exact gq.elim
    | cont => exact gq.elim
end DV

set_option Elab.async false
set_option linter.all false
set_option maxRecDepth 100000
/-! DV11: lambdas handed over, over plain data. -/
namespace DV
open PySem PySem.Spec PyProof.Rows L2
section
variable {S : Ent} {Z : Zs} {env : Env} {σ : L2.St} {H : Hp}
/-- what must stay hidden -/
def Must (S : Ent) (Z : Zs) (env : Env) (σ : L2.St) (b : Addr) : Prop := b ∈ S.Z.O ∨ b ∈ Z.B ∨ Z.h = some b ∨ ¬ NotOwned env σ b
noncomputable def trimO (S : Ent) (Z : Zs) (env : Env) (σ : L2.St) : List Addr := Z.O.filter fun b => @decide (Must S Z env σ b) (Classical.propDecidable _)
theorem mem_trim {b : Addr} : b ∈ trimO S Z env σ ↔ b ∈ Z.O ∧ Must S Z env σ b := by
  unfold trimO
  rw [List.mem_filter, @decide_eq_true_iff (Must S Z env σ b) (Classical.propDecidable _)]
/-- what nothing owns any more is shown -/
theorem Rel.trim (R : Rel S Z env σ H) : Rel S ⟨trimO S Z env σ, Z.h, Z.B⟩ env σ H ∧ Tr Z H ⟨trimO S Z env σ, Z.h, Z.B⟩ H := by
  have v : Vle Z H ⟨trimO S Z env σ, Z.h, Z.B⟩ H := ⟨fun b u q => by
    obtain ⟨h1, h2⟩ := vis_some q
    exact vis_out (fun z => h1 (mem_trim.mp z).1) h2 (vis_nt q), fun _ h => h⟩
  refine ⟨⟨fun a ha => R.oin a (mem_trim.mp ha).1, fun a ha => mem_trim.mpr ⟨R.sub a ha, .inl ha⟩, fun a ha => ?_, R.hsub, R.frame, R.ehnd, R.nhnd, R.len, fun i x e => ?_, R.inj, fun a ha => ?_, R.tabs, fun a ha => R.osb a (mem_trim.mp ha).1⟩,
    ⟨fun _ _ q _ => .of q, fun b hb => .inl (mem_trim.mp hb).1, fun _ h => h, fun _ h => .inl h, rfl⟩⟩
  · exact (R.hnd a ha).mono (mem_trim.mpr ⟨R.hin a ha, .inr (.inr (.inl ha))⟩) (fun c n _ z => n (mem_trim.mp z).1) fun _ _ q _ => q
  · exact (R.slots i x e).mono v fun a ho es h1 _ h2 => ⟨mem_trim.mpr ⟨h1, .inr (.inr (.inr fun n => n i x e ho es))⟩, h2, fun _ q _ => q⟩
  · have q := R.res a ha
    exact ⟨mem_trim.mpr ⟨q.ino, .inr (.inl ha)⟩, q.nh, q.ne, q.no⟩
/-- the slots' relation where more is hidden: another def's own lists -/
theorem Rel.under (R : Rel S Z env σ H) {O2 : List Addr} {H' : Hp} (hO : ∀ a ∈ Z.O, a ∈ O2) (hN : ∀ a ∈ O2, a ∈ Z.O ∨ H a = none) (oin : ∀ a ∈ O2, H' a ≠ none) (kp : ∀ b o, H b = some o → Z.h ≠ some b → Ex1 H' b o) (hd : ∀ a, Z.h = some a → HandOk O2 H' a) (tt : LamX.Tabs S.G.T H') :
    Rel S ⟨O2, Z.h, O2.filter (fun b => decide (b ∉ Z.O)) ++ Z.B⟩ env σ H' := by
  have v : Vle Z H ⟨O2, Z.h, O2.filter (fun b => decide (b ∉ Z.O)) ++ Z.B⟩ H' := ⟨fun b o e => by
    obtain ⟨h1, h2⟩ := vis_some e
    have n := vis_nt e
    refine vis_out (fun z => ?_) ((kp b o h2 fun z => h1 (R.hin b z)).get n) n
    rcases hN b z with q | q
    · exact h1 q
    · exact absurd q (by rw [h2]; simp), fun _ h => h⟩
  refine ⟨oin, fun a ha => hO a (R.sub a ha), hd, R.hsub, fun b o e n => ?_, R.ehnd, R.nhnd, R.len, fun i x e => ?_, R.inj, fun a ha => ?_, tt, fun a ha => ?_⟩
  · refine (R.frame b o e n).trans fun o' e' => kp b o' e' fun z => ?_
    rcases R.nhnd b z with q | q
    · exact n q
    · rw [e] at q; cases q
  · exact (R.slots i x e).mono v fun a _ _ h1 _ h2 => ⟨hO a h1, h2, fun o q n => (kp a o q h2).get n⟩
  · rcases List.mem_append.mp ha with h | h
    · rw [List.mem_filter, decide_eq_true_iff] at h
      have n1 : H a = none := (hN a h.1).resolve_left h.2
      refine ⟨h.1, fun z => h.2 (R.hin a z), R.fresh0 n1, fun j x e o s => ?_⟩
      obtain ⟨b, es, q, _⟩ := (R.slots j x e).to_own o
      rw [s] at es; cases es
      exact h.2 q
    · have q := R.res a h
      exact ⟨hO a q.ino, q.nh, q.ne, q.no⟩
  · rcases hN a ha with q | q
    · exact R.osb a q
    · exact .inr (R.fresh0 q)
end
/-! ### the way of a thing that is called -/
abbrev Tl := (D → Prop) → (Er → Prop) → Prop
abbrev Fl := Tl → (D → Prop) → Prop
def Kp (h : Option Addr) (H H' : Hp) : Prop := ∀ b o, H b = some o → h ≠ some b → Ex1 H' b o
def Hd (O : List Addr) (h : Option Addr) (H : Hp) : Prop := ∀ a, h = some a → HandOk O H a
/-- the heap's reading of a def that calls what it is given -/
def TTd (G : Pg) (F : Fl) : (XK → Hp → VK → Prop) → Hp → VK → Prop := fun tl H Q => ∃ (Z : Zs) (tD : Tl) (Qd : D → Prop), (∀ a ∈ Z.O, H a ≠ none) ∧ Hd Z.O Z.h H ∧ LamX.Tabs G.T H ∧ F tD Qd ∧
  (∀ d v H', Kp Z.h H H' → Hd Z.O Z.h H' → LamX.Tabs G.T H' → RS G Z H' v d → Qd d → Q v H') ∧
  ∀ (O2 : List Addr) (H' : Hp) (Qd' : D → Prop) (Ed' : Er → Prop) (Q' : VK) (E' : XK), (∀ a ∈ Z.O, a ∈ O2) → (∀ a ∈ O2, a ∈ Z.O ∨ H a = none) → (∀ a ∈ O2, H' a ≠ none) → Kp Z.h H H' → Hd O2 Z.h H' → LamX.Tabs G.T H' → tD Qd' Ed' →
    (∀ d v H'', Kp Z.h H' H'' → Hd O2 Z.h H'' → LamX.Tabs G.T H'' → Rep G (vis O2 H'') Z.h v d → Qd' d → Q' v H'') →
    (∀ er cls dd H'', Kp Z.h H' H'' → Hd O2 Z.h H'' → LamX.Tabs G.T H'' → ErrOk G ⟨O2, Z.h, []⟩ H'' cls dd er → Ed' er → E' cls dd H'') → tl E' H' Q'
/-- f(lambda: e) -/
def wLam (F : Fl) (Tb : Tm) : Tm := fun env Q _ => F (fun Q' E' => Tb env (fun d e => e = env ∧ Q' d) (fun er e => e = env ∧ E' er)) (fun d => Q d env)
/-- y(), y the def's own first name -/
def wAct (f : Addr) (tD : Tl) : Tm := fun env Q E => env[0]? = some (.pin f none []) ∧ tD (fun d => Q d env) (fun er => E er env)
/-- what such a def's body is worth -/
def wFl (n : Nat) (B : Addr → Tl → Ts) : Fl := fun tD Q => ∀ f, B f tD (.pin f none [] :: List.replicate (n - 1) .no) { nx := fun _ => Q .non, rt := fun d _ => Q d, bk := fun _ => False, ct := fun _ => False, ex := fun _ _ => False }
theorem takes_lam {X : Cx} {A : Around} {outer : List PySem.Env} {s0 : Shared} {H0 : Hp} {E : XK} {sc : Scope} {f c' : Addr} : Takes (LamX.lamCx X A outer s0 H0 E sc f c') (fun cls d _ H => E cls d H) := takes_of rfl rfl rfl rfl
theorem dx_lam {S : Ent} {X : Cx} {F : Fl} {Tb : Tm} {x a : Str} {g c P : Addr} {k : Nat} {pg : Arguments} {bg : List Stmt} {sg : Scope} {dV kV doc pm cdv ct oc : Value} {an od : Option Addr} {osl : Array (Option Value)} {Ng : List Str} {pa : Arguments} {bd : Expr} {sc : Scope} {p lp pos : Pos} (hm : X.mg x = some (.ref g)) (hk : PySem.W.keepIn X.K (.ref g) = true)
    (lk : X.K.lookup g = some ⟨oc, od, .func (PySem.W.fnOf x x pg bg sg dV kV doc pm an cdv ct), osl⟩) (cg : PySem.W.codeIn X.K cdv x = true) (hb : L2.Binds X.K (PySem.W.fnOf x x pg bg sg dV kV doc pm an cdv ct) [a] []) (Sg : FnScope Ng [a] sg)
    (hG : GivesE X Ng x sg g cdv bg a (X.env.qual ++ "<lambda>") (TTd S.G F)) (B : LamX.TabB X.base X.mg c P) (hc : X.env.code = .ref c) (mT : (P, X.env.qual ++ "<lambda>") ∈ S.G.T) (uT : ∀ p ∈ S.G.T, p.1 = P → p.2 = X.env.qual ++ "<lambda>") (hr : Room (k + 2) X.A)
    (L : LamX.LamS X.env.scope sc) (hbd : ∀ (A : Around) (outer : List PySem.Env) (s0 : Shared) (H0 : Hp) (E : XK) (f c' : Addr), Room k (A.deeper (LamX.lamEnv X sc s0.heap.objs.size f c')) → DE S (LamX.lamCx X A outer s0 H0 E sc f c') bd Tb)
    (hg : Gl X x := by rfl) (n0 : Ng[0]? = some a := by rfl) (va : Vis sg a := by first | exact Or.inl rfl | exact Or.inr (Or.inl rfl) | exact Or.inr (Or.inr rfl)) (nd : defaultsOf pa X.env = ([], []) := by rfl)
    (bi : ∀ (q : Str) (cl : List (Str × Addr)) (pm cv ctv : Value), bindArgs (PySem.W.kla_fn "<lambda>" q pa bd sc cl pm cv ctv) ⟨[], []⟩ = pure [] := by intros; rfl)
    (hdb : (x == ("__debug__" : Str)) = false := by decide) (hd : (a == ("__debug__" : Str)) = false := by decide) (hcd : (a == ("__classdict__" : Str)) = false := by decide) : DE S X (.Call (.Name x p) [.Lambda pa bd sc lp] [] pos) (wLam F Tb) := ⟨fun W tk => by
  let t : XK → TE := fun E σ H Q => ∀ A outer s0 H0 f c' (hr : Room k (A.deeper (LamX.lamEnv X sc s0.heap.objs.size f c'))), Classical.choose ((hbd A outer s0 H0 E f c' hr).run _ takes_lam) σ H Q
  have pb : ∀ (A : Around) (outer : List PySem.Env) (s0 : Shared) (H0 : Hp) (E : XK) (f c' : Addr), Room k (A.deeper (LamX.lamEnv X sc s0.heap.objs.size f c')) → PE (LamX.lamCx X A outer s0 H0 E sc f c') bd (t E) := fun A outer s0 H0 E f c' hr =>
    ⟨fun pins s σ H Q I h => (Classical.choose_spec ((hbd A outer s0 H0 E f c' hr).run _ takes_lam)).1.run pins s σ H Q I (h A outer s0 H0 f c' hr)⟩
  refine ⟨_, pe_lamE (T := S.G.T) hg hm hk lk cg hb Sg n0 va hG B hc mT uT hr L nd bi pb hdb hd hcd, fun Z env σ H Q E Q' R hT k x => ⟨R.tabs, fun H1 xt t1 => ?_⟩⟩
  have kp1 : Kp Z.h H H1 := fun b o e _ => by
    by_cases n : NT o
    · exact .of (xt.1 b o e n)
    · have : ∃ ps, o = .tbl ps := Classical.not_forall_not.mp fun z => n z
      obtain ⟨ps, rfl⟩ := this
      obtain ⟨ps', e'⟩ := xt.2 b ps e
      exact ⟨_, e', fun n => absurd rfl (n ps)⟩
  have hd1 : Hd Z.O Z.h H1 := fun a ha => by
    obtain ⟨i1, c, cells, q, bg, st, cnt, e1, nc, e2, r⟩ := R.hnd a ha
    exact ⟨i1, c, cells, q, bg, st, cnt, xt.1 _ _ e1 (fun _ z => by cases z), nc, xt.1 _ _ e2 (fun _ z => by cases z), r⟩
  have R1 := R.step kp1 hd1 t1
  have tr1 : Tr Z H Z H1 := ⟨kp1, fun _ h => .inl h, fun _ h => h, fun _ h => .inl h, rfl⟩
  obtain ⟨Rt, trt⟩ := R1.trim
  have tr2 := Tr.trans R1 tr1 trt
  refine ⟨⟨trimO S Z env σ, Z.h, Z.B⟩, _, _, Rt.oin, Rt.hnd, Rt.tabs, hT, fun d v H' kp hd tt r q => ?_, fun O2 H' Qd' Ed' Q2 E2 s1 s2 s3 s4 s5 s6 hq k1 k2 => ?_⟩
  · exact k _ env v d H' (Rt.step kp hd tt) (Tr.trans Rt tr2 ⟨kp, fun _ h => .inl h, fun _ h => h, fun _ h => .inl h, rfl⟩) r q
  · intro A outer s0 H0 f c' hr'
    have Ru := Rt.under s1 s2 s3 s4 s5 s6
    have big : ∀ {Z3 : Zs} {H3 : Hp}, Rel S Z3 env σ H3 → Z3.B = O2.filter (fun b => decide (b ∉ trimO S Z env σ)) ++ Z.B → ∀ b ∈ O2, b ∈ Z3.O := fun {Z3 H3} R3 eB b hb => by
      by_cases hz : b ∈ trimO S Z env σ
      · rcases (mem_trim.mp hz).2 with q | q | q | q
        · exact R3.sub b q
        · exact (R3.res b (by rw [eB]; exact List.mem_append_right _ q)).ino
        · exact R3.hin b (by rw [R3.hsub, ← R.hsub]; exact q)
        · apply Classical.byContradiction
          intro nb
          exact q fun j y e o s => by
            obtain ⟨b', es, q', _⟩ := (R3.slots j y e).to_own o
            rw [s] at es; cases es
            exact nb q'
      · exact (R3.res b (by rw [eB]; exact List.mem_append_left _ (List.mem_filter.mpr ⟨hb, decide_eq_true hz⟩))).ino
    have hdO : ∀ {Z3 : Zs} {H3 : Hp}, Rel S Z3 env σ H3 → Z3.B = O2.filter (fun b => decide (b ∉ trimO S Z env σ)) ++ Z.B → Hd O2 Z.h H3 := fun {Z3 H3} R3 eB a ha => by
      have hh : Z3.h = some a := by rw [R3.hsub, ← R.hsub]; exact ha
      have i1 : a ∈ O2 := s1 a (mem_trim.mpr ⟨R.hin a ha, .inr (.inr (.inl ha))⟩)
      exact (R3.hnd a hh).mono i1 (fun c nc _ z => nc (big R3 eB c z)) fun _ _ q _ => q
    have same : ∀ {Z3 : Zs} {H3 : Hp}, Rel S Z3 env σ H3 → Z3.B = O2.filter (fun b => decide (b ∉ trimO S Z env σ)) ++ Z.B → Same (vis Z3.O H3) (vis O2 H3) := fun {Z3 H3} R3 eB b o e => by
      obtain ⟨h1, h2⟩ := vis_some e
      exact vis_out (fun z => h1 (big R3 eB b z)) h2 (vis_nt e)
    refine (Classical.choose_spec ((hbd A outer s0 H0 E2 f c' hr').run _ takes_lam)).2 _ env σ H' _ _ _ Ru hq (fun Z3 env3 v d H3 R3 t3 r3 h3 => ?_) fun Z3 env3 cls dd er H3 R3 v3 eo h3 => ?_
    · obtain ⟨rfl, h3⟩ := h3
      exact k1 d v H3 t3.keep (hdO R3 t3.bb) R3.tabs (r3.mono (same R3 t3.bb) fun a ha => by rw [R3.hsub, ← R.hsub] at ha; exact ha) h3
    · obtain ⟨rfl, h3⟩ := h3
      obtain ⟨C, g1, g2, g3⟩ := eo
      exact k2 er cls dd H3 v3.keep (hdO R3 v3.bb) R3.tabs ⟨C, g1, g2, g3.mono (same R3 v3.bb) fun a ha => by rw [R3.hsub, ← R.hsub] at ha; exact ha⟩ h3⟩
theorem start_one {N : List Str} {v : V} (h : 1 ≤ N.length) : (L2.start N []).set 0 (some v) = L2.start N [v] := by
  unfold L2.start
  obtain ⟨n, e⟩ : ∃ n, N.length = n + 1 := ⟨N.length - 1, by omega⟩
  simp [e, List.replicate_succ]
theorem code_nt {c : Addr} {q : Str} : NT (LamX.CodeO c q) := fun ps z => by
  unfold LamX.CodeO at z
  cases z
theorem gives_of {X : Cx} {G : Pg} {Ng : List Str} {x a q : Str} {sg : Scope} {g : Addr} {cdg : Value} {bg : List Stmt} {B : Addr → Tl → Ts} (hn : 1 ≤ Ng.length)
    (hbody : ∀ (S2 : Ent) (tD : Tl) (f : Addr) (s : Shared) (H : Hp), Room 1 (X.A.deeper (envOfC x sg s.heap.objs.size g cdg)) → S2.G = G → (∀ pn xe p1 p2, DE S2 ((cxOf C8.CX0 X.prog X.w X.K X.mg X.base Ng x sg g cdg X.A X.stack s H C8.E0).tr pn xe) (.Call (.Name a p1) [] [] p2) (wAct f tD)) →
      DSs S2 (cxOf C8.CX0 X.prog X.w X.K X.mg X.base Ng x sg g cdg X.A X.stack s H C8.E0).nox bg (B f tD)) : GivesE X Ng x sg g cdg bg a q (TTd G (wFl Ng.length B)) := by
  intro f c' s H Q tl act hro hco hTT
  obtain ⟨Z, tD, Qd, oin, hd, tt, hF, kfin, kcall⟩ := hTT
  have R0 : Rel ⟨G, Z, H⟩ ⟨Z.O, Z.h, []⟩ (List.replicate Ng.length .no) (L2.start Ng []) H := entry_rel (N := Ng) (vs := []) (ds := []) oin hd .nil rfl tt
  have R : Rel ⟨G, Z, H⟩ ⟨Z.O, Z.h, []⟩ (.pin f none [] :: List.replicate (Ng.length - 1) .no) (L2.start Ng [.ref f]) H := by
    have R1 := R0.putPin (i := 0) (a := f) (dd := none) (fs := []) rfl
    rw [start_one hn] at R1
    obtain ⟨n, e⟩ : ∃ n, Ng.length = n + 1 := ⟨Ng.length - 1, by omega⟩
    rw [e, List.replicate_succ, List.set_cons_zero] at R1
    rw [e]
    exact R1
  have hact : ∀ pn xe p1 p2, DE ⟨G, Z, H⟩ ((cxOf C8.CX0 X.prog X.w X.K X.mg X.base Ng x sg g cdg X.A X.stack s H C8.E0).tr pn xe) (.Call (.Name a p1) [] [] p2) (wAct f tD) := fun pn xe p1 p2 => ⟨fun W tk => by
    refine ⟨_, act W pn xe p1 p2 tk, fun Z2 env2 σ2 H2 Q2 E2 Q' R2 hT k x => ?_⟩
    obtain ⟨e0, ht⟩ := hT
    have hZ : Z2.h = Z.h := R2.hsub
    have hne : Z.h ≠ some c' := fun z => by
      obtain ⟨_, _, _, _, _, _, _, e1, _⟩ := hd c' z
      rw [hco] at e1
      unfold LamX.CodeO at e1
      cases e1
    refine ⟨(R2.slots 0 _ e0).1, (R2.frame c' _ hco hne).get code_nt, fun cls d H' => W cls d σ2 H', fun _ _ _ h => h, ?_⟩
    refine kcall Z2.O H2 _ _ _ _ R2.sub R2.osb R2.oin R2.frame (fun b hb => R2.hnd b (hZ.trans hb)) R2.tabs ht (fun d v H3 kp hd3 tt3 r q3 => ?_) fun er cls dd H3 kp hd3 tt3 eo q3 => ?_
    · have kp2 : ∀ b o, H2 b = some o → Z2.h ≠ some b → Ex1 H3 b o := fun b o e n => kp b o e (by rw [← hZ]; exact n)
      exact k Z2 env2 v d H3 (R2.step kp2 (fun b hb => hd3 b (hZ ▸ hb)) tt3) ⟨kp2, fun _ h => .inl h, fun _ h => h, fun _ h => .inl h, rfl⟩ (by show Rep G (vis Z2.O H3) Z2.h v d; rw [hZ]; exact r) q3
    · have kp2 : ∀ b o, H2 b = some o → Z2.h ≠ some b → Ex1 H3 b o := fun b o e n => kp b o e (by rw [← hZ]; exact n)
      obtain ⟨C, g1, g2, g3⟩ := eo
      exact x Z2 env2 cls dd er H3 (R2.step kp2 (fun b hb => hd3 b (hZ ▸ hb)) tt3) ⟨kp2, fun _ h => .inl h, fun _ h => h, fun _ h => .inl h, rfl⟩ ⟨C, g1, g2, by rw [hZ]; exact g3⟩ q3⟩
  obtain ⟨t, p, rd⟩ := (hbody ⟨G, Z, H⟩ tD f s H hro rfl hact).run (fun _ _ _ _ => False) LamX.takes0 PassesOwn.never
  refine ⟨t, p, rd _ _ _ H _ _ R (hF f) ⟨fun Z' e s' H' R' v h => ?_, fun Z' e s' v d H' R' vl rv h => ?_, fun _ _ _ _ _ _ h => h.elim, fun _ _ _ _ _ _ h => h.elim, fun _ _ _ _ _ _ _ _ _ _ h => h.elim, fun _ _ _ _ _ _ _ _ _ _ _ h => h.elim⟩⟩
  · exact kfin .non _ H' R'.frame (exit_hand R' fun b hb => (hd b hb).1) R'.tabs .non h
  · exact kfin d v H' R'.frame (exit_hand R' fun b hb => (hd b hb).1) R'.tabs (Rep.mono (exit_vle R') (fun b hb => R'.hsub.symm.trans hb) rv) h
end DV

set_option Elab.async false
set_option linter.all false
set_option maxRecDepth 100000
/-! DV12: errors' makers, defs that hold lambdas, defs that are handed lambdas. -/
namespace DV
open PySem PySem.Spec PyProof.Rows L2
/-- a def whose code object stands at c -/
structure FunC (K : PySem.W.Frag) (x qual : Str) (st : Stmt) (f : Addr) (fd : FuncData) (c : Addr) : Prop where
  ex : ∃ (oc : Value) (od : Option Addr) (kV doc pm : Value) (an : Option Addr) (ct : Value) (osl : Array (Option Value)),
    fd = PySem.W.fnOf x qual (defArgs st) (defBody st) (defScope st) .none kV doc pm an (.ref c) ct ∧ K.lookup f = some ⟨oc, od, .func fd, osl⟩ ∧ PySem.W.codeIn K (.ref c) qual = true
theorem fn_okC {P : Program} {w : World} {G : Pg} {mg : Str → Option Value} {base : Heap} {x qual : Str} {st : Stmt} {f c : Addr} {fd : FuncData} {N ps : List Str} {k n : Nat} {B : Ts} (F : FunC G.K x qual st f fd c) (Sc : FnScope N ps (defScope st)) (hn : n = ps.length)
    (hbody : ∀ (A : Around) (outer : List PySem.Env) (s : Shared) (H : Hp) (E : XK) (S : Ent), S.G = G → Room k (A.deeper (envOfC qual (defScope st) s.heap.objs.size f (.ref c))) →
      DSs S (cxOf (L2.CX P w) P w G.K mg base N qual (defScope st) f (.ref c) A outer s H E) (defBody st) B) : FnOk P w G.K mg base (L2.CX P w) (k + 1) f fd ps (spD G n (wFn N.length B)) := by
  obtain ⟨oc, od, kV, doc, pm, an, ct, osl, rfl, lk, hcd⟩ := F.ex
  refine fn_of lk hcd Sc (fun vs H Q E h => ?_) fun A outer s H vs Q E hr h => ?_
  · obtain ⟨_, _, _, _, hl, _⟩ := h
    rw [hl, hn]
  · obtain ⟨Z, ds, Qd, Ed, hl, hl2, oin, hh, r, tt, hT, kq, ke⟩ := h
    have R := entry_rel (N := N) oin hh r (hl.trans hl2.symm) tt
    obtain ⟨t, p, q⟩ := (hbody A outer s H E ⟨G, Z, H⟩ rfl hr).run (fun cls d _ H => E cls d H) (takes_of rfl rfl rfl rfl) PassesOwn.leaving
    have hin : ∀ a, Z.h = some a → a ∈ Z.O := fun a ha => (hh a ha).1
    refine ⟨t, p, q _ _ _ H _ _ R hT ⟨fun Z' e s H' R' v h => ?_, fun Z' e s v d H' R' vl rv h => ?_, fun _ _ _ _ _ _ h => h.elim, fun _ _ _ _ _ _ h => h.elim, fun σ' Z' e cls dd er H' R' vl eo h => ?_, fun _ _ _ _ _ _ _ _ _ _ _ h => h.elim⟩⟩
    · exact kq _ _ H' R'.frame (exit_hand R' hin) R'.tabs .non h
    · refine kq d v H' R'.frame (exit_hand R' hin) R'.tabs ?_ h
      exact Rep.mono (exit_vle R') (fun a ha => R'.hsub.symm.trans ha) rv
    · refine ke er cls dd H' R'.frame (exit_hand R' hin) R'.tabs ?_ h
      obtain ⟨C, e1, e2, e3⟩ := eo
      exact ⟨C, e1, e2, e3.mono (exit_vle R') fun a ha => R'.hsub.symm.trans ha⟩
/-! ### a def that is handed a lambda -/
structure LamF (P : Program) (w : World) (G : Pg) (mg : Str → Option Value) (base : Heap) (x : Str) (F : Fl) : Prop where
  ex : ∃ (g : Addr) (a : Str) (pg : Arguments) (bg : List Stmt) (sg : Scope) (dV kV doc pm cdv ct oc : Value) (an od : Option Addr) (osl : Array (Option Value)) (Ng : List Str), mg x = some (.ref g) ∧ PySem.W.keepIn G.K (.ref g) = true ∧
    G.K.lookup g = some ⟨oc, od, .func (PySem.W.fnOf x x pg bg sg dV kV doc pm an cdv ct), osl⟩ ∧ PySem.W.codeIn G.K cdv x = true ∧ L2.Binds G.K (PySem.W.fnOf x x pg bg sg dV kV doc pm an cdv ct) [a] [] ∧ FnScope Ng [a] sg ∧ Ng[0]? = some a ∧ Vis sg a ∧
    (a == ("__debug__" : Str)) = false ∧ (a == ("__classdict__" : Str)) = false ∧
    ∀ (X : Cx) (q : Str), X.prog = P → X.w = w → X.K = G.K → X.mg = mg → X.base = base → GivesE X Ng x sg g cdv bg a q (TTd G F)
theorem dx_lamF {S : Ent} {X : Cx} {F : Fl} {Tb : Tm} {x : Str} {c P : Addr} {k : Nat} {pa : Arguments} {bd : Expr} {sc : Scope} {p lp pos : Pos} (LF : LamF X.prog X.w S.G X.mg X.base x F) (hK : X.K = S.G.K) (B : LamX.TabB X.base X.mg c P) (hc : X.env.code = .ref c)
    (mT : (P, X.env.qual ++ "<lambda>") ∈ S.G.T) (uT : ∀ p ∈ S.G.T, p.1 = P → p.2 = X.env.qual ++ "<lambda>") (hr : Room (k + 2) X.A) (L : LamX.LamS X.env.scope sc)
    (hbd : ∀ (A : Around) (outer : List PySem.Env) (s0 : Shared) (H0 : Hp) (E : XK) (f c' : Addr), Room k (A.deeper (LamX.lamEnv X sc s0.heap.objs.size f c')) → DE S (LamX.lamCx X A outer s0 H0 E sc f c') bd Tb)
    (hg : Gl X x := by rfl) (nd : defaultsOf pa X.env = ([], []) := by rfl) (bi : ∀ (q : Str) (cl : List (Str × Addr)) (pm cv ctv : Value), bindArgs (PySem.W.kla_fn "<lambda>" q pa bd sc cl pm cv ctv) ⟨[], []⟩ = pure [] := by intros; rfl)
    (hdb : (x == ("__debug__" : Str)) = false := by decide) : DE S X (.Call (.Name x p) [.Lambda pa bd sc lp] [] pos) (wLam F Tb) := by
  obtain ⟨g, a, pg, bg, sg, dV, kV, doc, pm, cdv, ct, oc, an, od, osl, Ng, h1, h2, h3, h4, h5, h6, h7, h8, h9, h10, h11⟩ := LF.ex
  rw [← hK] at h2 h3 h4 h5
  exact dx_lam h1 h2 h3 h4 h5 h6 (h11 X _ rfl rfl hK rfl rfl) B hc mT uT hr L hbd hg h7 h8 nd bi hdb h9 h10
theorem lamF_of {P : Program} {w : World} {G : Pg} {mg : Str → Option Value} {base : Heap} {x a : Str} {st : Stmt} {g : Addr} {fd : FuncData} {N : List Str} {B : Addr → Tl → Ts} (F : Fun G.K x x st g fd) (Sc : FnScope N [a] (defScope st)) (hn : 1 ≤ N.length) (hm : mg x = some (.ref g)) (hb : L2.Binds G.K fd [a] [])
    (hbody : ∀ (A : Around) (stk : List PySem.Env) (cdv : Value) (S2 : Ent) (tD : Tl) (f : Addr) (s : Shared) (H : Hp), Room 1 (A.deeper (envOfC x (defScope st) s.heap.objs.size g cdv)) → S2.G = G → (∀ pn xe p1 p2, DE S2 ((cxOf C8.CX0 P w G.K mg base N x (defScope st) g cdv A stk s H C8.E0).tr pn xe) (.Call (.Name a p1) [] [] p2) (wAct f tD)) →
      DSs S2 (cxOf C8.CX0 P w G.K mg base N x (defScope st) g cdv A stk s H C8.E0).nox (defBody st) (B f tD))
    (h7 : N[0]? = some a := by rfl) (h8 : Vis (defScope st) a := by first | exact Or.inl rfl | exact Or.inr (Or.inl rfl) | exact Or.inr (Or.inr rfl)) (h9 : (a == ("__debug__" : Str)) = false := by decide) (h10 : (a == ("__classdict__" : Str)) = false := by decide) : LamF P w G mg base x (wFl N.length B) := by
  obtain ⟨oc, od, kV, doc, pm, an, cdv, ct, osl, rfl, lk, hcd⟩ := F.ex
  refine ⟨g, a, defArgs st, defBody st, defScope st, .none, kV, doc, pm, cdv, ct, oc, an, od, osl, N, hm, F.kp, lk, hcd, hb, Sc, h7, h8, h9, h10, fun X q e1 e2 e3 e4 e5 => ?_⟩
  refine gives_of hn fun S2 tD f s H hro eG act => ?_
  subst e1 e2 e4 e5
  rw [e3] at act ⊢
  exact hbody X.A X.stack cdv S2 tD f s H hro eG act
/-! ### the end, with the tables of all defs -/
/-- the table of the def that the name x holds is empty -/
def TabOf (K : PySem.W.Frag) (mg : Str → Option Value) (x : Str) (h : Heap) : Prop := ∀ (fa c P : Addr) (o : Obj) (fd : FuncData) (e : Value) (dd : Option Addr) (vs : Array Value) (sl : Array (Option Value)), mg x = some (.ref fa) → K.lookup fa = some o → o.data = .func fd → fd.code = .ref c →
  K.lookup c = some ⟨e, dd, .fields vs, sl⟩ → vs[11]? = some (.ref P) → h.get? P = some { cls := .none, data := .fields #[] }
theorem walk_tabs {l : PySem.W.OpenLaw} {n k : Nat} {q : Program} {loose : List Str} {XP : (Str → Option Value) → Heap → Prop} {YP : World → Heap → Prop} {d : DefRec} {K : Params → PySem.W.Frag} {CX : World → CXT} {x : Str} (hn : l.most = some n) (hn2 : n ≤ sizeLine) (hdf : d.params.defaults = []) (hr : Room k callerA) (hY : ∀ (w : World) (h : Heap), YP w h → (K w.params).In h)
    (F : ∀ (w : World) (mg : Str → Option Value) (fa : Addr) (h : Heap), YP w h → (K w.params).In h → h.Ns mainGlobals mg → mg d.name = some (.ref fa) → (∀ x, ((recsOf q).any fun e => e.name == x) = true → TabOf (K w.params) mg x h) → LamX.LawAtS l w (K w.params) (CX w) k n x mg fa h)
    (hCX : ∀ (w : World) (H : Hp) (s : Shared) (e : Value) (s' : Shared), CX w [] H s (fun _ _ _ => False) e s' → False) : PySem.W.WalkO q loose XP YP l.row.toRowW d [] (fun f vs => PySem.call f vs) := by
  refine Att.attach_callB hn hdf fun w s0 s1 mg mb fa o pm cd doc a vs ns G Y ho hd hcd hmg hobj hints hlen hbits hg => ?_
  have KX := hY w _ Y
  have tabs : ∀ x, ((recsOf q).any fun e => e.name == x) = true → TabOf (K w.params) mg x s1.heap := fun x hrec f2 c P o1 fd1 e dd v1 sl k0 k1 k2 k3 k4 k5 => by
    obtain ⟨dL, hm, hn1⟩ := List.any_eq_true.mp hrec
    obtain rfl : dL.name = x := beq_iff_eq.mp hn1
    obtain ⟨a', o', fd', c', P', h1, h2, h3, h4, h5, h6⟩ := G.T.tab dL hm
    rw [k0] at h1
    cases h1
    rw [KX _ _ k1] at h2
    cases h2
    rw [k2] at h3
    cases h3
    rw [k3] at h4
    cases h4
    obtain ⟨⟨oc, vc, e1, _, e3, e4⟩, hP⟩ := h6
    rw [KX _ _ k4] at e1
    cases e1
    cases e3
    rw [k5] at e4
    cases e4
    exact hP
  obtain ⟨fd, cs, sp, hT, nT, C, hb, hsp, hF⟩ := F w mg fa _ Y KX G.T.g hmg tabs
  exact LamX.law_callTs KX G.T.g G.T.b G.T.builtins G.T.nolimit hg hT nT C G.T.bmain hobj hints (Nat.le_trans hlen hn2) hr hF hb (fun H hH hS => hsp H a ns hlen hbits hH hS) fun H e s' => hCX w H s1 e s'
/-! ### facts of the errors' classes -/
theorem et_all {Pr : Str → Addr → Prop} : ∀ {L : List (Str × Addr)}, (∀ p ∈ L, Pr p.1 p.2) → ∀ n D, L.lookup n = some D → Pr n D
  | [], _, _, _, e => by cases e
  | (x, a) :: L, h, n, D, e => by
    rw [List.lookup_cons] at e
    by_cases q : (n == x) = true
    · rw [q] at e
      cases e
      rw [beq_iff_eq.mp q]
      exact h _ List.mem_cons_self
    · rw [Bool.not_eq_true] at q
      rw [q] at e
      exact et_all (fun p hp => h p (List.mem_cons_of_mem _ hp)) n D e
/-- what a try asks of the class that it names -/
def CatchAll (G : Pg) (mg : Str → Option Value) (x : Str) : Prop := ∃ C0, mg x = some (.ref C0) ∧ ∀ y C, G.ET y = some C → PySem.W.exmOne G.K (.ref C) (.ref C0) = some true
def OwnCls (G : Pg) (mg : Str → Option Value) (x : Str) (subs : List Str) : Prop := ∃ C, mg x = some (.ref C) ∧ KitE G (.ref C) fun n => subs.contains n
theorem ds_tryE {S : Ent} {X : Cx} (i : Nat) {x n : Str} {body suite : List Stmt} {b0 : Stmt} {np pos pos' : Pos} {B : Ts} {Bh : Addr → Option Addr → Er → Ts} (hs : X.stack = X.env :: X.outer) (hf : X.env.frame = some X.env.locals) (hN : X.N.Nodup) (hK : X.K = S.G.K) (hc : CatchAll S.G X.mg x) (hb : ∀ pn xe, DSs S (X.tr pn xe) body B)
    (hh : ∀ (a : Addr) (oe : Obj) (C : Addr) (dd : Option Addr) (pn : List (Addr × Obj)) (er : Er), Zc (.ref C) dd oe → (∃ vs, oe.data = .fields vs) → S.G.ET er.1 = some C → DSs S (X.suite a ((a, oe) :: pn)) (b0 :: suite) (Bh a dd er))
    (hi : X.N[i]? = some n := by rfl) (hln : X.env.kindOf n = some .local := by rfl) (hg : Gl X x := by rfl) (hdb : (x == ("__debug__" : Str)) = false := by decide) : DS S X (.Try body [.ExceptHandler (some (.Name x np)) (some n) (b0 :: suite) pos'] [] [] pos) (wTry i B Bh) := by
  obtain ⟨C0, m0, h0⟩ := hc
  exact ds_try i hs hf hN (fun y C e => by rw [hK]; exact h0 y C e) m0 hb hh hi hln hg hdb
section
variable {S : Ent} {X : Cx} {a D : Addr} {dd : Option Addr} {oe : Obj} {pn : List (Addr × Obj)} {er : Er} {n cn : Str} {p p1 p2 pos : Pos}
theorem dx_isEo (i : Nat) {subs : List Str} (hK : X.K = S.G.K) (ec : ErrCls S.G) (hz : Zc (.ref D) dd oe) (hf : ∃ vs, oe.data = .fields vs) (hD : S.G.ET er.1 = some D) (ke : OwnCls S.G X.mg cn subs) (hm : X.mg "isinstance" = none) (hN : X.N[i]? = some n := by rfl)
    (hvi : Vis X.env.scope n := by first | exact Or.inl rfl | exact Or.inr (Or.inl rfl) | exact Or.inr (Or.inr rfl)) (hg : Gl X "isinstance" := by rfl) (hg2 : Gl X cn := by rfl) (hd : (n == ("__debug__" : Str)) = false := by decide) (hcd : (n == ("__classdict__" : Str)) = false := by decide) (hd2 : (cn == ("__debug__" : Str)) = false := by decide) :
    DE S (X.suite a ((a, oe) :: pn)) (.Call (.Name "isinstance" p) [.Name n p1, .Name cn p2] [] pos) (wIsE i a dd er fun n => subs.contains n) := by
  obtain ⟨C, m, k⟩ := ke
  exact dx_isE i hK ec hz hf hD k hm (by decide +kernel) (pe_glob (v := .ref C) hg2 m rfl hd2) (fun _ h => h) hN hvi hg hd hcd
theorem dx_isEb (i : Nat) {T : String} {sub : Str → Bool} (hK : X.K = S.G.K) (ec : ErrCls S.G) (hz : Zc (.ref D) dd oe) (hf : ∃ vs, oe.data = .fields vs) (hD : S.G.ET er.1 = some D) (ke : KitE S.G (.type T) sub) (hm : X.mg "isinstance" = none) (hm2 : X.mg cn = none) (hv2 : bootBuiltins cn = some (.type T)) (hN : X.N[i]? = some n := by rfl)
    (hvi : Vis X.env.scope n := by first | exact Or.inl rfl | exact Or.inr (Or.inl rfl) | exact Or.inr (Or.inr rfl)) (hg : Gl X "isinstance" := by rfl) (hg2 : Gl X cn := by rfl) (hd : (n == ("__debug__" : Str)) = false := by decide) (hcd : (n == ("__classdict__" : Str)) = false := by decide) (hn2 : cn ≠ "__name__" := by decide) (hd2 : (cn == ("__debug__" : Str)) = false := by decide) :
    DE S (X.suite a ((a, oe) :: pn)) (.Call (.Name "isinstance" p) [.Name n p1, .Name cn p2] [] pos) (wIsE i a dd er sub) :=
  dx_isE i hK ec hz hf hD ke hm (by decide +kernel) (pe_bltn (v := .ty T) hg2 hm2 hv2 rfl hn2 hd2) (fun _ h => h) hN hvi hg hd hcd
end
end DV

set_option Elab.async false
set_option linter.all false
set_option maxRecDepth 100000
/-! DV13: more of the language. -/
namespace DV
open PySem PySem.Spec PyProof.Rows L2
/-! ### isinstance(x, (T, U)) -/
def wIsT2 (t u : Ty) (T : Tm) : Tm := fun env Q E => T env (fun d env1 => d.isHand = false ∧ Q (.bl (d.isTy t || d.isTy u)) env1) E
section
variable {S : Ent} {X : Cx} {a : Expr} {Ta : Tm} {p p2 p3 p4 pos : Pos}
theorem dx_isT2 (t u : Ty) {tn un : Str} {kk : Nat} (hK : X.K = S.G.K) (hO : ∀ c C, S.G.CT c = some C → ObjCls S.G.K C) (hm : X.mg "isinstance" = none) (hv : bootBuiltins "isinstance" = some (.builtin "isinstance")) (ha : DB S X a Ta)
    (m1 : X.mg tn = none) (v1 : bootBuiltins tn = some (.type t.nm)) (m2 : X.mg un = none) (v2 : bootBuiltins un = some (.type u.nm)) (hg : Gl X "isinstance" := by rfl) (g1 : Gl X tn := by rfl) (g2 : Gl X un := by rfl) (n1 : tn ≠ "__name__" := by decide) (n2 : un ≠ "__name__" := by decide)
    (d1 : (tn == ("__debug__" : Str)) = false := by decide) (d2 : (un == ("__debug__" : Str)) = false := by decide)
    (he : starEach [a, .Tuple [.Name tn p2, .Name un p3] kk p4] X.env = (false, eval a X.env) :: starEach [.Tuple [.Name tn p2, .Name un p3] kk p4] X.env := by rfl) (hpl : (backTo pos (starEach [.Tuple [.Name tn p2, .Name un p3] kk p4] X.env)).any (·.1) = false := by rfl) :
    DE S X (.Call (.Name "isinstance" p) [a, .Tuple [.Name tn p2, .Name un p3] kk p4] [] pos) (wIsT2 t u Ta) := ⟨fun W tk => by
  obtain ⟨ta, pa, ra⟩ := ha.run W tk
  refine ⟨_, pe_callB call_isiT hg hm hv (pa_cons pa (pa_cons (pe_tup (pa_cons (pe_bltn (v := .ty t.nm) g1 m1 v1 rfl n1 d1) (pa_cons (pe_bltn (v := .ty u.nm) g2 m2 v2 rfl n2 d2) pa_nil))) pa_nil) he) (by decide) (by decide) he hpl, fun Z env σ H Q E Q' R hT k x => ?_⟩
  refine ra Z env σ H _ E _ R hT (fun Z1 env1 v d H1 R1 t1 r1 h1 => ?_) x
  refine ⟨by show 2 ≤ _; rw [sizeLine_eq]; decide, fun q hq => ?_⟩
  have sm := same_upd (o := .tup [.ty t.nm, .ty u.nm]) hq
  have R2 := R1.grow sm
  have r2 := r1.on R1 (.alloc sm)
  obtain ⟨w1, ty1, kk⟩ := kit_of_rep hO r2 h1.1
  rw [← hK] at ty1
  refine ⟨v, q, _, w1, [.type t.nm, .type u.nm], _, rfl, upd_same, .cons (.ty _) (.cons (.ty _) .nil), ty1, ?_, k Z1 env1 _ _ _ R2 (Tr.trans R1 t1 (.alloc sm)) (.bl _) h1.2⟩
  rw [hK]
  unfold PySem.W.kitAny
  rw [kk t]
  cases d.isTy t with
  | true => rfl
  | false =>
    show PySem.W.kitAny S.G.K w1 [.type u.nm] = _
    unfold PySem.W.kitAny
    rw [kk u]
    cases d.isTy u <;> rfl⟩
end
/-! ### an empty dict -/
def wDct0 : Tm := fun env Q _ => Q (.dct []) env
theorem dx_dict0 {S : Ent} {X : Cx} {pos : Pos} : DE S X (.Dict [] [] pos) wDct0 := ⟨fun W tk => by
  refine ⟨_, pe_dnewK, fun Z env σ H Q E Q' R hT k x => ?_⟩
  intro p hp
  have sm := same_upd (o := .dK []) hp
  exact k Z env _ _ _ (R.grow sm) (.alloc sm) (.dK (vis_out (R.free hp) upd_same) rfl .nil rfl) hT⟩
/-! ### xs.append(ys.pop(e)) -/
def wAppPop (i j : Nat) (T : Tm) : Ts := fun env P => (∃ a xs, env[i]? = some (.own a xs)) ∧ (∃ b ys, env[j]? = some (.own b ys)) ∧ T env (fun d env1 => ∃ a xs b ys n k v, env1[i]? = some (.own a xs) ∧ env1[j]? = some (.own b ys) ∧ d = .int n ∧ ys.length ≤ big ∧ ixN ys.length n = some k ∧ ys[k]? = some v ∧ xs.length < big ∧
  P.nx ((env1.set j (.own b (ys.eraseIdx k))).set i (.own a (xs ++ [v])))) P.ex
theorem ds_appPop {S : Ent} {X : Cx} {e : Expr} {Te : Tm} (i j : Nat) {x y : Str} {px py apos bpos cpos dpos pos : Pos} (hij : i ≠ j) (h : DE S X e Te) (hN : X.N[i]? = some x := by rfl) (hM : X.N[j]? = some y := by rfl) (hv : Vis X.env.scope x := by first | exact Or.inl rfl | exact Or.inr (Or.inl rfl) | exact Or.inr (Or.inr rfl))
    (hw : Vis X.env.scope y := by first | exact Or.inl rfl | exact Or.inr (Or.inl rfl) | exact Or.inr (Or.inr rfl)) (hbase : attributeBase (.Name x px) "append" X.env (eval (.Name x px) X.env) = eval (.Name x px) X.env := by rfl) (hbas2 : attributeBase (.Name y py) "pop" X.env (eval (.Name y py) X.env) = eval (.Name y py) X.env := by rfl)
    (hfew : ((backTo cpos (starEach [.Call (.Attribute (.Name y py) "pop" bpos) [e] [] dpos] X.env)).all (fun x => !x.1) && (backToKw cpos (keywordEach [] X.env)).all (fun x => x.1.isSome) && decide (([.Call (.Attribute (.Name y py) "pop" bpos) [e] [] dpos] : List Expr).length + ([] : List Keyword).length + (if ([] : List Keyword).isEmpty then 0 else 1) < 30)) = true := by rfl)
    (hfe2 : ((backTo dpos (starEach [e] X.env)).all (fun x => !x.1) && (backToKw dpos (keywordEach [] X.env)).all (fun x => x.1.isSome) && decide (([e] : List Expr).length + ([] : List Keyword).length + (if ([] : List Keyword).isEmpty then 0 else 1) < 30)) = true := by rfl)
    (hl1 : (apos.endLine == cpos.line) = true := by rfl) (hl2 : (bpos.endLine == dpos.line) = true := by rfl) (hs1 : starEach [.Call (.Attribute (.Name y py) "pop" bpos) [e] [] dpos] X.env = (false, eval (.Call (.Attribute (.Name y py) "pop" bpos) [e] [] dpos) X.env) :: starEach [] X.env := by rfl)
    (hs2 : starEach [e] X.env = (false, eval e X.env) :: starEach [] X.env := by rfl) (hs : swapsWith (.Call (.Attribute (.Name x px) "append" apos) [.Call (.Attribute (.Name y py) "pop" bpos) [e] [] dpos] [] cpos) none pos.line X.env = pure false := by rfl)
    (hd : (x == ("__debug__" : Str)) = false := by decide) (hcd : (x == ("__classdict__" : Str)) = false := by decide) (hd2 : (y == ("__debug__" : Str)) = false := by decide) (hcd2 : (y == ("__classdict__" : Str)) = false := by decide) :
    DS S X (.Expr (.Call (.Attribute (.Name x px) "append" apos) [.Call (.Attribute (.Name y py) "pop" bpos) [e] [] dpos] [] cpos) pos) (wAppPop i j Te) := ⟨fun W tk pa => by
  obtain ⟨t, p, q⟩ := h.run W tk
  have pp := pe_bm PySem.F.plainAttrs_list PySem.F.slot_list_pop PySem.F.type_list_pop mt_popAt (pe_var (i := j) hM hw hd2 hcd2) (pa_cons p pa_nil hs2) hbas2 hfe2 hl2 hs2 rfl
  refine ⟨_, ps_expr (pe_bm PySem.F.plainAttrs_list PySem.F.slot_list_append PySem.F.type_list_append mt_append (pe_var hN hv hd hcd) (pa_cons pp pa_nil hs1) hbase hfew hl1 hs1 rfl) hs, fun Z env σ H P D' R hT f => ?_⟩
  obtain ⟨⟨a, xs0, e0⟩, ⟨b, ys0, f0⟩, hT⟩ := hT
  obtain ⟨vs0, es, a1, a2, a3, a4, a5⟩ := R.slots i _ e0
  obtain ⟨ws0, fs, b1, b2, b3, b4, b5⟩ := R.slots j _ f0
  refine ⟨_, es, .inl ⟨rfl, _, SqL.of a4⟩, ?_⟩
  refine ⟨_, fs, .inl ⟨rfl, _, SqL.of b4⟩, ?_⟩
  refine q Z env σ H _ _ _ R hT (fun Z1 env1 w d H1 R1 t1 r1 h1 => ?_) ((f.ex σ).ok R)
  obtain ⟨a', xs, b', ys, n, k, v, e1, f1, rfl, hz, hk, hv', hx, h1⟩ := h1
  obtain ⟨vs, es1, c1, c2, c3, c4, c5⟩ := R1.slots i _ e1
  obtain ⟨ws, fs1, d1, d2, d3, d4, d5⟩ := R1.slots j _ f1
  rw [es] at es1; cases es1
  rw [fs] at fs1; cases fs1
  cases r1
  obtain ⟨u, hu, ru⟩ := d5.get hv'
  obtain ⟨k1, k2, k3, k4⟩ := ixN_seq hk
  have hl := d5.length
  refine ⟨b, ws, n, k, u, rfl, rfl, d4, ?_, ?_, by rw [hl]; exact k1, hu, ?_⟩
  · unfold big at hz; omega
  · unfold big at hz; omega
  have R2 := R1.write (y := .own b (ys.eraseIdx k)) (o := .lst (ws.eraseIdx k)) f1 rfl rfl fs ⟨rfl, _, upd_same, by rw [vis_upd_in d1]; exact d5.eraseIdx k⟩
  have ne : a ≠ b := fun z => hij (R1.inj i j _ _ a e1 f1 rfl rfl es (by rw [z]; exact fs))
  have e2 : (env1.set j (.own b (ys.eraseIdx k)))[i]? = some (.own a xs) := by rw [List.getElem?_set_ne (Ne.symm hij)]; exact e1
  refine ⟨a, vs, u, rfl, rfl, by rw [upd_ne ne]; exact c4, by rw [c5.length, sizeLine_eq]; unfold big at hx; omega, ?_⟩
  have v2 : Vle Z1 H1 Z1 (upd H1 b (.lst (ws.eraseIdx k))) := ⟨fun o x z => by rw [vis_upd_in d1]; exact z, fun _ h => h⟩
  have R3 := R2.write (y := .own a (xs ++ [v])) (o := .lst (vs ++ [u])) e2 rfl rfl es ⟨rfl, _, upd_same, by rw [vis_upd_in c1, vis_upd_in d1]; exact c5.append (.cons ru .nil)⟩
  exact f.nx Z1 _ σ _ R3 ((R.vle t1).trans (v2.trans ⟨fun o x z => by rw [vis_upd_in c1]; exact z, fun _ h => h⟩)) h1⟩
/-! ### list(x), sorted(x) -/
section
variable {S : Ent} {X : Cx}
def gList : GL := fun ds Q => match ds with
  | [.lst xs] => Q (.lst xs)
  | [.tup xs] => Q (.lst xs)
  | _ => False
theorem cd_list (hK : X.K = S.G.K) : CallD S X (.type "list") gList := by
  refine ⟨_, call_list_of, fun Z H vs ds Qd Q' hl hr hg k oin => ?_⟩
  unfold gList at hg
  split at hg
  · obtain ⟨v, rfl, r⟩ := one_of hl hr
    obtain ⟨p, ws, rfl, ep, rp⟩ := r.lst
    exact ⟨p, ws, rfl, .inl (SqL.of ep), fun q hq => k _ _ _ (same_upd hq) (new_lst oin hq rp) hg⟩
  · obtain ⟨v, rfl, r⟩ := one_of hl hr
    obtain ⟨p, ws, rfl, ep, rp⟩ := r.tup
    rw [← hK] at ep
    exact ⟨p, ws, rfl, .inr ep, fun q hq => k _ _ _ (same_upd hq) (new_lst oin hq rp) hg⟩
  · exact hg.elim
/-- sorted(a list of ints) -/
def gSorted : GL := fun ds Q => match ds with
  | [.lst xs] => ∃ ns, toIs xs = some ns ∧ ∀ ms : List Int, ms.Perm ns → ms.Pairwise (· ≤ ·) → Q (.lst (ms.map D.int))
  | _ => False
theorem cd_sorted : CallD S X (.builtin "sorted") gSorted := by
  refine ⟨_, cr_sortedI, fun Z H vs ds Qd Q' hl hr hg k oin => ?_⟩
  unfold gSorted at hg
  split at hg
  · obtain ⟨ns, h1, h2⟩ := hg
    obtain ⟨v, rfl, r⟩ := one_of hl hr
    obtain ⟨p, ws, rfl, ep, rp⟩ := r.lst
    rw [toIs_eq h1] at rp
    rw [rp.ints] at ep
    exact ⟨p, ns, rfl, SqL.of ep, fun ms q hp hw hq => k _ _ _ (same_upd hq) (new_lst oin hq (RepL.of_ints ms)) (h2 ms hp hw)⟩
  · exact hg.elim
/-- list(x), a list of one's own -/
def wLstOf (T : Tm) : Tf := fun env Q E => T env (fun d env1 => ∃ xs, itemsOf d = some xs ∧ ∀ a, Q (.own a xs) env1) E
theorem df_listOf {a : Expr} {Ta : Tm} {p pos : Pos} (hK : X.K = S.G.K) (hm : X.mg "list" = none) (ha : DB S X a Ta) (hg : Gl X "list" := by rfl) (he : starEach [a] X.env = (false, eval a X.env) :: starEach [] X.env := by rfl) : DF S X (.Call (.Name "list" p) [a] [] pos) (wLstOf Ta) := ⟨fun W tk => by
  obtain ⟨t, pa, q⟩ := ha.run W tk
  refine ⟨_, pe_callTy call_list_of hg hm (by decide +kernel) (pa_cons pa pa_nil he) (by decide) (by decide) he rfl, fun Z env σ H Q E Q' R hT k x => ?_⟩
  refine q Z env σ H _ E _ R hT (fun Z1 env1 v d H1 R1 t1 r1 h1 => ?_) x
  obtain ⟨xs, hx, h1⟩ := h1
  have fin : ∀ (g : Addr) (ws : List V), v = .ref g → (SqL X.K H1 g ws ∨ SqT X.K H1 g ws) → RepL S.G (vis Z1.O H1) Z1.h ws xs → ∃ p ys, [v] = [V.ref p] ∧ (SqL X.K H1 p ys ∨ SqT X.K H1 p ys) ∧ ∀ l, H1 l = none → Q' (.ref l) (upd H1 l (.lst ys)) := fun g ws ev hs rl =>
    ⟨g, ws, by rw [ev], hs, fun l hl => by
      obtain ⟨R2, t2, no, h0, hh, hn⟩ := R1.hide (o := .lst ws) hl
      exact k _ env1 l (.own l xs) _ R2 (Tr.trans R1 t1 t2) ⟨List.mem_cons_self, hh, h0, no⟩ (fun hb => hn (R1.res l hb).ino) rfl ⟨rfl, ws, upd_same, (R1.vle t2).repL rl⟩ (h1 l)⟩
  cases d with
  | lst ys =>
    cases hx
    obtain ⟨g, ws, ev, ep, rp⟩ := r1.lst
    exact fin g ws ev (.inl (SqL.of ep)) rp
  | tup ys =>
    cases hx
    obtain ⟨g, ws, ev, ep, rp⟩ := r1.tup
    rw [← hK] at ep
    exact fin g ws ev (.inr ep) rp
  | _ => cases hx⟩
end
end DV

set_option Elab.async false
set_option linter.all false
set_option maxRecDepth 100000
/-! DV14: the facts of own error classes, gathered. -/
namespace DV
open PySem PySem.Spec PyProof.Rows L2
/-- an own error class, as the top has written it -/
structure OwnE (K : PySem.W.Frag) (C fI : Addr) : Prop where
  o : OexC K C
  x : ExcC K C
  i1 : PySem.W.findIn K (.ref C) "__init__" = some (some (.ref fI))
theorem ownE_mk {K : PySem.W.Frag} {C fI : Addr} {nm q : Str} {N : Addr} {bs bm : List Value} {sn : List Str} {sub : List Value} {ab : Bool} {col : Option Bool} {dd : Option Addr} {m0 m1 m2 m3 m5 : Option Value}
    (xL : K.lookup C = some (excClassObj nm q C N bs bm true sn sub ab col dd m0 m1 m2 m3 m5 "ValueError.__new__")) (bmv : PySem.HandSPX.refsVE bm = true)
    (sa : PySem.W.findIn K (.ref C) "__setattr__" = some (some (.builtin "object.__setattr__"))) (ga : PySem.W.findIn K (.ref C) "__getattribute__" = some (some (.builtin "BaseException.__getattribute__"))) (gg : PySem.W.findIn K (.ref C) "__getattr__" = some none)
    (i1 : PySem.W.findIn K (.ref C) "__init__" = some (some (.ref fI))) (kC : PySem.W.keepIn K (.ref C) = true) (eC : PySem.W.subIn K (.ref C) (.type "BaseException") = some true) (tC : PySem.W.typeIn K (.ref C) = some (.type "type")) (hC : PySem.W.hasDictIn K C = true)
    (cl : PySem.W.findIn K (.ref C) "__class__" = some (some (.builtin "object.__class__"))) (mO : PySem.W.mroIn K C (.type "object") = some true)
    (hn : PySem.W.specialIn K (.builtin "object.__class__") "__get__" = some (some (.builtin "getset_descriptor.__get__"))) (ht : PySem.W.takesIn K (.builtin "object.__class__") = some true) : OwnE K C fI :=
  ⟨⟨⟨_, _, _, _, _, _, _, _, _, _, _, _, _, _, _, xL, bmv⟩, sa, eC, tC, kC⟩, ⟨ga, gg, eC, hC, cl, hn, ht, mO⟩, i1⟩
theorem OwnE.er {P : Program} {w : World} {G : Pg} {mg : Str → Option Value} {base : Heap} {x : Str} {k : Nat} {sp : Sp} {C fI : Addr} {fd : FuncData} {ps : List Str} (h : OwnE G.K C fI) (hG : G.ET x = some C) (hm : mg x = some (.ref C)) (t1 : PySem.W.typeIn G.K (.ref fI) = some (.type "function")) (hb : L2.Binds G.K fd ps [])
    (F : FnOk P w G.K mg base (L2.CX P w) k fI fd ps sp) : ErC P w G mg base x k sp := ⟨⟨C, fI, fd, ps, hG, hm, h.o, h.i1, t1, hb, F⟩⟩
theorem OwnE.xf {K : PySem.W.Frag} {C fI : Addr} (h : OwnE K C fI) : XfC K C := ⟨h.x.hg, h.x.hk, h.x.hs, h.x.hd⟩
/-- an except clause that names the class D takes C -/
theorem OwnE.exm {K : PySem.W.Frag} {C D fJ : Addr} (hD : OwnE K D fJ) (s : PySem.W.subIn K (.ref C) (.ref D) = some true) : PySem.W.exmOne K (.ref C) (.ref D) = some true := PySem.W.exm_ref hD.x.hs hD.x.hd hD.o.tyC s
theorem errCls_of {G : Pg} {L : List (Str × Addr)} (hET : G.ET = fun n => L.lookup n) (h : ∀ p ∈ L, ∃ fI, OwnE G.K p.2 fI) : ErrCls G := by
  refine ⟨fun n D e => ?_, fun n D e => ?_⟩
  · rw [hET] at e
    obtain ⟨fI, o⟩ := et_all (Pr := fun _ D => ∃ fI, OwnE G.K D fI) h n D e
    exact o.x
  · rw [hET] at e
    obtain ⟨fI, o⟩ := et_all (Pr := fun _ D => ∃ fI, OwnE G.K D fI) h n D e
    exact o.xf
theorem kitE_of {G : Pg} {cv : Value} {sub : Str → Bool} {L : List (Str × Addr)} (hET : G.ET = fun n => L.lookup n) (h : ∀ p ∈ L, PySem.W.kitOne G.K (.ref p.2) cv = some (sub p.1)) : KitE G cv sub :=
  ⟨fun n D e => by rw [hET] at e; exact et_all (Pr := fun n D => PySem.W.kitOne G.K (.ref D) cv = some (sub n)) h n D e⟩
/-! ### the end -/
theorem tabs0 {T : List (Addr × Str)} {cs : List (Addr × Addr)} {H : Hp} (h : ∀ p ∈ T, ∃ c, (c, p.1) ∈ cs) (e : ∀ p ∈ cs, H p.2 = some (.tbl #[])) : LamX.Tabs T H := fun p hp => by
  obtain ⟨c, hc⟩ := h p hp
  exact ⟨#[], e _ hc, trivial, fun q cv h => by cases h⟩
end DV

set_option Elab.async false
set_option linter.all false
set_option maxRecDepth 100000
/-! DV15: targets that change own lists (a, x[i] = ..), new lists by [e] * n. -/
namespace DV
open PySem PySem.Spec PyProof.Rows L2
abbrev Tx := D → Env → (Env → Prop) → Ex → Prop
abbrev Txs := List D → Env → (Env → Prop) → Ex → Prop
structure DH (S : Ent) (X : Cx) (tg : Expr) (g : Tx) : Prop where
  run : ∀ W, Takes X W → ∃ t, PG X tg t ∧ ∀ Z env σ H v d (K : Env → Prop) (E : Ex) (K' : L2.St → Hp → Prop), Rel S Z env σ H → RS S.G Z H v d → g d env K E → (∀ σ', ExV S Z H σ' E W) →
    (∀ Z' env' σ' H', Rel S Z' env' σ' H' → Vle Z H Z' H' → K env' → K' σ' H') → t v σ H K'
structure DHs (S : Ent) (X : Cx) (tg : List Expr) (g : Txs) : Prop where
  run : ∀ W, Takes X W → ∃ t, PGs X tg t ∧ ∀ Z env σ H vs ds (K : Env → Prop) (E : Ex) (K' : L2.St → Hp → Prop), Rel S Z env σ H → RepL S.G (vis Z.O H) Z.h vs ds → g ds env K E → (∀ σ', ExV S Z H σ' E W) →
    (∀ Z' env' σ' H', Rel S Z' env' σ' H' → Vle Z H Z' H' → K env' → K' σ' H') → t vs σ H K'
section
variable {S : Ent} {X : Cx} {e a b : Expr} {Te : Tm} {pos : Pos}
def hN (g : Tg) : Tx := fun d env K _ => g d env K
theorem dh_of {tg : Expr} {ix : List Nat} {g : Tg} (h : DG S X tg ix g) : DH S X tg (hN g) := ⟨fun W tk => by
  obtain ⟨t, p, q⟩ := h.run
  exact ⟨t, p, fun Z env σ H v d K E K' R r hg _ k => q Z env σ H v d K _ R r hg fun env' σ' R' _ h => k Z env' σ' H R' .refl h⟩⟩
def hIx (i : Nat) (Ti' : Tm) : Tx := fun d env K E => (∃ a xs, env[i]? = some (.own a xs)) ∧ Ti' env (fun k env2 => ∃ a xs n j, env2[i]? = some (.own a xs) ∧ k = .int n ∧ ixN xs.length n = some j ∧ K (env2.set i (.own a (xs.set j d)))) E
theorem dh_ix (i : Nat) {x : Str} {px p' : Pos} {ie : Expr} {Tk : Tm} (hi : DB S X ie Tk) (hN : X.N[i]? = some x := by rfl) (hv : Vis X.env.scope x := by first | exact Or.inl rfl | exact Or.inr (Or.inl rfl) | exact Or.inr (Or.inr rfl))
    (ha : ∀ v, assign (.Subscript (.Name x px) ie p') X.env v = (do
      let ov ← holding [v] (eval (.Name x px) X.env)
      let iv ← holding [v, ov] (eval ie X.env)
      standAt p'
      holding [v, ov, iv] (setItem ov iv v)
      release [v, ov, iv] []) := by intro _; rfl)
    (hd : (x == ("__debug__" : Str)) = false := by decide) (hcd : (x == ("__classdict__" : Str)) = false := by decide) : DH S X (.Subscript (.Name x px) ie p') (hIx i Tk) := ⟨fun W tk => by
  obtain ⟨tk', pk, qk⟩ := hi.run W tk
  refine ⟨_, pg_sub (pe_var hN hv hd hcd) pk set_list ha, fun Z env σ H v d K E K' R r1 hg fx k => ?_⟩
  obtain ⟨⟨a, xs0, e0⟩, h1⟩ := hg
  obtain ⟨vs0, es, a1, a2, a3, a4, a5⟩ := R.slots i _ e0
  refine ⟨_, es, ?_⟩
  refine qk Z env σ H _ _ _ R h1 (fun Z2 env2 w k2 H2 R2 t2 r2 h2 => ?_) ((fx σ).ok R)
  obtain ⟨b, xs, n, j, e1, rfl, hj, h2⟩ := h2
  obtain ⟨vs, es1, b1, b2, b3, b4, b5⟩ := R2.slots i _ e1
  rw [es] at es1; cases es1
  refine ⟨a, vs, n, j, rfl, r2.int, b4, by rw [b5.length]; exact hj, ?_⟩
  have R3 := R2.write (y := .own a (xs.set j d)) (o := .lst (vs.set j v)) e1 rfl rfl es ⟨rfl, _, upd_same, by rw [vis_upd_in b1]; exact b5.set (RS.on r1 R t2) j⟩
  exact k Z2 _ σ _ R3 ((R.vle t2).trans ⟨fun b o e => by rw [vis_upd_in b1]; exact e, fun _ h => h⟩) h2⟩
def hNil : Txs := fun ds env K _ => ds = [] ∧ K env
def hCons (g : Tx) (gs : Txs) : Txs := fun ds env K E => match ds with
  | d :: r => g d env (fun env1 => gs r env1 K E) E
  | [] => False
def hTup (n : Nat) (gs : Txs) : Tx := fun d env K E => match d with
  | .tup ds => ds.length = n ∧ gs ds env K E
  | _ => False
theorem dhs_nil : DHs S X [] hNil := ⟨fun W tk => ⟨_, pgs_nil, fun Z env σ H vs ds K E K' R r hg _ k => by
  obtain ⟨rfl, hg⟩ := hg
  cases r
  exact ⟨rfl, k Z env σ H R .refl hg⟩⟩⟩
theorem dhs_cons {e : Expr} {es : List Expr} {g : Tx} {gs : Txs} (h1 : DH S X e g) (h2 : DHs S X es gs) (hs : (assignEach (e :: es) X.env).map (·.2) = assign e X.env :: (assignEach es X.env).map (·.2) := by rfl) :
    DHs S X (e :: es) (hCons g gs) := ⟨fun W tk => by
  obtain ⟨t, p, q⟩ := h1.run W tk
  obtain ⟨t', p', q'⟩ := h2.run W tk
  refine ⟨_, pgs_cons p p' hs, fun Z env σ H vs ds K E K' R r hg fx k => ?_⟩
  cases r with
  | nil => exact hg.elim
  | cons r rs =>
    refine ⟨_, _, rfl, q Z env σ H _ _ _ E _ R r hg fx fun Z1 env1 σ1 H1 R1 v1 h1 => ?_⟩
    exact q' Z1 env1 σ1 H1 _ _ K E K' R1 (v1.repL rs) h1 (fun s => (fx s).on v1) fun Z2 env2 σ2 H2 R2 v2 h2 => k Z2 env2 σ2 H2 R2 (v1.trans v2) h2⟩
theorem dh_tup {es : List Expr} {kk : Nat} {pos : Pos} {gs : Txs} {n : Nat} (hK : X.K = S.G.K) (hc : X.calm = true) (h : DHs S X es gs) (hn : (assignEach es X.env).length = n := by rfl) (hst : (assignEach es X.env).findIdx? (·.1) = none := by rfl) :
    DH S X (.Tuple es kk pos) (hTup n gs) := ⟨fun W tk => by
  obtain ⟨t, p, q⟩ := h.run W tk
  refine ⟨_, pg_tup hc p hn hst, fun Z env σ H v d K E K' R r hg fx k => ?_⟩
  unfold hTup at hg
  split at hg
  · cases r with
    | tup e rl =>
      exact ⟨_, _, rfl, by rw [hK]; exact sqT_vis e, by rw [rl.length]; exact hg.1, q Z env σ H _ _ K E K' R rl hg.2 fx k⟩
  · exact hg.elim⟩
def wAsgH (T : Tm) (g : Tx) : Ts := fun env P => T env (fun d env1 => g d env1 P.nx P.ex) P.ex
theorem ds_asgH {tg : Expr} {g : Tx} (h : DE S X e Te) (hg : DH S X tg g) (hs : swapsWithSole [tg] e pos.line X.env = pure false := by rfl) (hw : swappedStores [tg] e X.env = pure none := by rfl)
    (h1 : (assignEach [tg] X.env).map (·.2) = [assign tg X.env] := by rfl) : DS S X (.Assign [tg] e pos) (wAsgH Te g) := ⟨fun W tk pa => by
  obtain ⟨t, p, q⟩ := h.run W tk
  obtain ⟨tg', pg, qg⟩ := hg.run W tk
  exact ⟨_, ps_asg p pg hs hw h1, fun Z env σ H P D' R hT f => q Z env σ H _ _ _ R hT (fun Z1 env1 v d H1 R1 t1 r1 h1 =>
    qg Z1 env1 σ H1 v d _ _ _ R1 r1 h1 (fun s => (f.ex s).on (R.vle t1)) fun Z2 env2 σ2 H2 R2 v2 h2 => f.nx Z2 env2 σ2 H2 R2 ((R.vle t1).trans v2) h2) ((f.ex σ).ok R)⟩⟩
/-! ### [..] * n, a list of one's own -/
def wRepF (Ta Tb : Tm) : Tf := fun env Q E => Ta env (fun x env1 => Tb env1 (fun y env2 => ∃ xs k, x = .lst xs ∧ y = .int k ∧ k < 1000000 ∧ xs.length * k.toNat ≤ big ∧ -1000000 < k ∧ ∀ p, Q (.own p (List.replicate k.toNat xs).flatten) env2) E) E
theorem df_rep {Ta Tb : Tm} (ha : DB S X a Ta) (hb : DB S X b Tb) : DF S X (.BinOp a .Mult b pos) (wRepF Ta Tb) := ⟨fun W tk => by
  obtain ⟨ta, pa, ra⟩ := ha.run W tk
  obtain ⟨tb, pb, rb⟩ := hb.run W tk
  refine ⟨_, pe_op op_rep pa pb, fun Z env σ H Q E Q' R hT k x => ?_⟩
  refine ra Z env σ H _ E _ R hT (fun Z1 env1 v1 d1 H1 R1 t1 r1 h1 => ?_) x
  refine rb Z1 env1 σ H1 _ E _ R1 h1 (fun Z2 env2 v2 d2 H2 R2 t2 r2 h2 => ?_) (x.on R1 t1)
  obtain ⟨xs, n, rfl, rfl, g1, g2, g3, h2⟩ := h2
  have t12 := Tr.trans R1 t1 t2
  obtain ⟨g, vs, rfl, ea, rl⟩ := (r1.on R1 t2).lst
  rw [r2.int]
  refine ⟨g, n, vs, rfl, rfl, ea, by omega, by omega, by rw [rl.length]; exact big_line g2, fun p hp => ?_⟩
  obtain ⟨R3, t3, no, h0, hh, hn⟩ := R2.hide (o := .lst (List.replicate n.toNat vs).flatten) hp
  refine k _ env2 p (.own p _) _ R3 (Tr.trans R2 t12 t3) ⟨List.mem_cons_self, hh, h0, no⟩ (fun hb => hn (R2.res p hb).ino) rfl ⟨rfl, _, upd_same, ?_⟩ (h2 p)
  exact (R2.vle t3).repL (rl.rep _)⟩
end
/-! ### the end -/
/-- the program's fixed part: tables of lambdas' holders, error classes -/
abbrev pgOf (K : PySem.W.Frag) (T : List (Addr × Str)) (L : List (Str × Addr)) : Pg := ⟨K, fun _ => none, T, fun n => L.lookup n⟩
end DV

set_option Elab.async false
set_option linter.all false
set_option maxRecDepth 100000
namespace Law
open PySem PySem.Spec PyProof.Rows L2 DV
/-! the text by places -/
def top (i : Nat) : Stmt := PySem.Challenge.pw_checksigns_k16_whole_one_and_swap_told.main.body.getD i (.Pass ⟨0, 0, 0, 0⟩)
abbrev s__law_hand : Stmt := top 17
abbrev s__law_is : Stmt := top 20
abbrev s__law_least : Stmt := top 23
abbrev s_is_unseen : Stmt := top 13
abbrev s_is_integer : Stmt := top 5
abbrev s_is_within : Stmt := top 6
abbrev s_check_number : Stmt := top 8
abbrev s_is_sized : Stmt := top 7
abbrev s_check_weights : Stmt := top 12
abbrev s_swap_told : Stmt := top 15
abbrev s__law_common : Stmt := top 24
abbrev s_one_told : Stmt := top 14
abbrev s__law_draw : Stmt := top 18
abbrev s__law_weights : Stmt := top 21
abbrev s__law_some : Stmt := top 19
abbrev s__law_is_right : Stmt := top 25
abbrev s__law_word : Stmt := top 22
abbrev s__law_are_refused : Stmt := top 26
abbrev s_law : Stmt := top 27
/-- what the module's names hold -/
structure Txt (mg : Str → Option Value) : Prop where
  b_ValueError : mg "ValueError" = none
  b_abs : mg "abs" = none
  b_all : mg "all" = none
  b_bool : mg "bool" = none
  b_enumerate : mg "enumerate" = none
  b_int : mg "int" = none
  b_isinstance : mg "isinstance" = none
  b_len : mg "len" = none
  b_list : mg "list" = none
  b_range : mg "range" = none
  b_str : mg "str" = none
  b_sum : mg "sum" = none
  b_tuple : mg "tuple" = none
  b_zip : mg "zip" = none
  c_MOST_BY : ∃ t, mg "MOST_BY" = some (.int 200 t)
  c_MOST_LONG : ∃ t, mg "MOST_LONG" = some (.int 24 t)
/-- what the error classes say -/
structure ErT (G : Pg) (mg : Str → Option Value) : Prop where
  cls : ErrCls G
  c_CheckError : CatchAll G mg "CheckError"
  k_NoNumber : OwnCls G mg "NoNumber" (["NoNumber"] : List Str)
  k_NoWeights : OwnCls G mg "NoWeights" (["NoWeights"] : List Str)
  kV : KitE G (.type "ValueError") fun _ => true
section
variable {P : Program} {w : World} {G : Pg} {mg : Str → Option Value} {base : Heap} {f : Addr} {fd : FuncData}
/-! ### _law_hand -/
theorem sc__law_hand : FnScope ["script", "cells", "cell"] ["script"] (defScope s__law_hand) := ⟨rfl, rfl, rfl, by decide +kernel, rfl, by decide +kernel, by decide +kernel⟩
def B__law_hand_2 : Ts := (wRetF (wLst (wCons (wVal 1) (wCons (wC (.int 0)) (wCons (wC (.int 0)) (wCons (wOp gAdd (wC (.int 89)) (wOp gMul (wC (.int 13)) (wCB gLen (wCons (wLook 1) wNil)))) (wCons (wC (.int 0)) wNil)))))))
def B__law_hand : Ts := (wSeq (wAsg (wF (wLc (wiSq (wSlc (wLook 0) wNoP (wPart (wC (.int 63))))) (gN 2) wYes (wCB gAbs (wCons (wCB gInt (wCons (wLook 2) wNil)) wNil)) [2])) (gN 1))
  B__law_hand_2)
theorem ok__law_hand (T : Txt mg) (hO : ∀ c C, G.CT c = some C → ObjCls G.K C) (F : Fun G.K "_law_hand" "_law_hand" s__law_hand f fd) (hB : ∀ (ns : List Int), ns.length ≤ 63 → ∀ Q : Post, (∀ (a : Addr) (cells : List Int) (seed : Int) (r : DV.Env), (∀ x ∈ cells, 0 ≤ x) → 0 ≤ seed → seed < 9223372036854775808 → Q.rf (.own a (handL cells 0 0 seed 0)) r) → B__law_hand (.val (.frz (ns.map D.int)) :: List.replicate (3 - 1) .no) Q) : FnOk P w G.K mg base (L2.CX P w) 1 f fd ["script"] (handSp G) := hand_fn F sc__law_hand rfl (by decide) (fun cdv A outer s H E S eS hr => by
  subst eS
  have nd := sc__law_hand.nd
  have hu65 : A.units + 3 + 65 < cLine := by have := hr.un; show _ < _; have e : (A.deeper (envOfC "_law_hand" (defScope s__law_hand) s.heap.objs.size f cdv)).units = A.units + 3 := rfl; omega
  exact (dss_cons (ds_valLc 1 rfl nd (di_sq mdB rfl (DB.of (dx_slc rfl (db_var 0) dp_none (dp_some (DB.of dx_int))))) (blkOk_by (own := [("cell", 2)]) (N := ["script", "cells", "cell"]) (sc := (defScope s__law_hand)) (by decide +kernel)) (fun _ _ _ _ _ => (dg_name 2 nd)) (fun _ _ _ _ _ => dif_nil) (fun _ _ _ _ _ => (dx_cb (cd_abs) T.b_abs (by decide +kernel) (da_cB (DB.of (dx_cty (cd_int) T.b_int (by decide +kernel) (da_cB (db_var 2) da_nil))) da_nil))) (sw_true rfl rfl rfl (by decide +kernel)))
  (dss_one (ds_retF (df_lst (da_cS (dx_var 1) (da_cS dx_int (da_cS dx_int (da_cS (dx_op (od_add rfl) (DB.of dx_int) (DB.of (dx_op (od_mul rfl) (DB.of dx_int) (DB.of (dx_cb (cd_len rfl) T.b_len (by decide +kernel) (da_cB (db_var 1) da_nil)))))) (da_cS dx_int da_nil)))))))))) hB
/-! ### _law_is -/
theorem sc__law_is : FnScope ["got", "due", "one", "other"] ["got", "due"] (defScope s__law_is) := ⟨rfl, rfl, rfl, by decide +kernel, rfl, by decide +kernel, by decide +kernel⟩
def B__law_is_11 (T : Fn) : Ts := (wRet (wAndV (wOp gEq (wIsT .str (wLook 0)) (wIsT .str (wLook 1))) (wOp gEq (wLook 0) (wLook 1))))
def B__law_is_9 (T : Fn) : Ts := (wSeq (wIfS (wTst (wOp gNe (wIsT .bool (wLook 0)) (wIsT .bool (wLook 1)))) (wRet (wC (.bl false))) wSkip)
  (B__law_is_11 T))
def B__law_is_7 (T : Fn) : Ts := (wSeq (wIfS (wOr (wTst (wOp gIs (wLook 1) (wC .non))) (wTst (wOp gIs (wLook 0) (wC .non)))) (wRet (wAndV (wOp gIs (wLook 1) (wC .non)) (wOp gIs (wLook 0) (wC .non)))) wSkip)
  (B__law_is_9 T))
def B__law_is_6 (T : Fn) : Ts := (wRet (wCB gAll (wCons (wF (wLc (wiZip (wLook 0) (wLook 1)) (gTup 2 (gCons (gN 2) (gCons (gN 3) gNil))) wYes (wCall 2 T (wCons (wVal 2) (wCons (wVal 3) wNil))) [2, 3])) wNil)))
def B__law_is_4 (T : Fn) : Ts := (wSeq (wIfS (wOr (wTst (wOp gNe (wIsT .list (wLook 0)) (wIsT .list (wLook 1)))) (wTst (wOp gNe (wCB gLen (wCons (wLook 0) wNil)) (wCB gLen (wCons (wLook 1) wNil))))) (wRet (wC (.bl false))) wSkip)
  (B__law_is_6 T))
def B__law_is_2 (T : Fn) : Ts := (wSeq (wIfS (wTst (wOp gNe (wIsT .tuple (wLook 0)) (wIsT .tuple (wLook 1)))) (wRet (wC (.bl false))) wSkip)
  (B__law_is_4 T))
def B__law_is (T : Fn) : Ts := (wSeq (wIfS (wTst (wIsT2 .tuple .list (wLook 1))) (B__law_is_2 T) wSkip)
  (B__law_is_7 T))
def T__law_is : Nat → Fn
  | 0 => fun _ _ _ => False
  | n + 1 => wFn 4 (B__law_is (T__law_is n))
theorem ok__law_is (T : Txt mg) (hO : ∀ c C, G.CT c = some C → ObjCls G.K C) (F : Fun G.K "_law_is" "_law_is" s__law_is f fd) (mf : mg "_law_is" = some (.ref f)) (bf : L2.Binds G.K fd ["got", "due"] []) : ∀ n : Nat, FnOk P w G.K mg base (L2.CX P w) (1 + n) f fd ["got", "due"] (spD G 2 (T__law_is n))
  | 0 => ⟨fun vs H Q E h => by obtain ⟨_, _, _, _, hl, _⟩ := h; rw [hl]; rfl, fun A outer s H args us vs Q E hr e0 hb hv hs => by obtain ⟨_, _, _, _, _, _, _, _, _, _, z, _⟩ := hs; exact z.elim⟩
  | n + 1 => by
    have IH := ok__law_is T hO F mf bf n
    have C__law_is : Cal P w G mg base "_law_is" (1 + n) 2 (T__law_is n) := ⟨f, fd, ["got", "due"], mf, F.kp, bf, IH⟩
    have e : 1 + (n + 1) = (1 + n) + 1 := by omega
    rw [e]
    exact fn_ok F sc__law_is rfl (fun cdv A outer s H E S eS hr => by
      subst eS
      have nd := sc__law_is.nd
      have hu65 : A.units + 3 + 65 < cLine := by have := hr.un; show _ < _; have e : (A.deeper (envOfC "_law_is" (defScope s__law_is) s.heap.objs.size f cdv)).units = A.units + 3 := rfl; omega
      exact (dss_cons (ds_if (dt_val (dx_isT2 .tuple .list rfl hO T.b_isinstance (by decide +kernel) (db_var 1) T.b_tuple (by decide +kernel) T.b_list (by decide +kernel))) (dss_cons (ds_if (dt_cmp (od_ne rfl hr.units) (DB.of (dx_isT .tuple rfl hO T.b_isinstance (by decide +kernel) (db_var 0) T.b_tuple (by decide +kernel))) (DB.of (dx_isT .tuple rfl hO T.b_isinstance (by decide +kernel) (db_var 1) T.b_tuple (by decide +kernel))) (by first | exact nomark _ | rfl)) (dss_one (ds_ret dx_bl)) dss_nil)
      (dss_cons (ds_if (DW.dt (dw_or (dt_cmp (od_ne rfl hr.units) (DB.of (dx_isT .list rfl hO T.b_isinstance (by decide +kernel) (db_var 0) T.b_list (by decide +kernel))) (DB.of (dx_isT .list rfl hO T.b_isinstance (by decide +kernel) (db_var 1) T.b_list (by decide +kernel))) (by first | exact nomark _ | rfl)) (dw_or1 (dt_cmp (od_ne rfl hr.units) (DB.of (dx_cb (cd_len rfl) T.b_len (by decide +kernel) (da_cB (db_var 0) da_nil))) (DB.of (dx_cb (cd_len rfl) T.b_len (by decide +kernel) (da_cB (db_var 1) da_nil))) (by first | exact nomark _ | rfl))))) (dss_one (ds_ret dx_bl)) dss_nil)
      (dss_one (ds_ret (dx_cb (cd_all rfl) T.b_all (by decide +kernel) (da_cB (DB.of (dx_f (df_lc rfl nd (di_zip mdB (fun h R t => RB.on h R t) rfl T.b_zip (db_var 0) (db_var 1)) (blkOk_by (own := [("one", 2), ("other", 3)]) (N := ["got", "due", "one", "other"]) (sc := (defScope s__law_is)) (by decide +kernel)) (fun _ _ _ _ _ => (dg_tup rfl rfl (dgs_cons (dg_name 2 nd) (dgs_cons (dg_name 3 nd) dgs_nil)))) (fun _ _ _ _ _ => dif_nil) (fun _ _ _ _ _ => (dx_call C__law_is rfl (hr.mono (by omega)) (da_cS (dx_var 2) (da_cS (dx_var 3) da_nil))))))) da_nil)))))) dss_nil)
      (dss_cons (ds_if (DW.dt (dw_or (dt_cmp (od_is) (db_var 1) (DB.of dx_non) (by first | exact nomark _ | rfl)) (dw_or1 (dt_cmp (od_is) (db_var 0) (DB.of dx_non) (by first | exact nomark _ | rfl))))) (dss_one (ds_ret (dx_and (dx_cmp (od_is) (db_var 1) (DB.of dx_non) (by first | exact nomark _ | rfl)) (dx_one (dx_cmp (od_is) (db_var 0) (DB.of dx_non) (by first | exact nomark _ | rfl)))))) dss_nil)
      (dss_cons (ds_if (dt_cmp (od_ne rfl hr.units) (DB.of (dx_isT .bool rfl hO T.b_isinstance (by decide +kernel) (db_var 0) T.b_bool (by decide +kernel))) (DB.of (dx_isT .bool rfl hO T.b_isinstance (by decide +kernel) (db_var 1) T.b_bool (by decide +kernel))) (by first | exact nomark _ | rfl)) (dss_one (ds_ret dx_bl)) dss_nil)
      (dss_one (ds_ret (dx_and (dx_cmp (od_eq rfl hr.units) (DB.of (dx_isT .str rfl hO T.b_isinstance (by decide +kernel) (db_var 0) T.b_str (by decide +kernel))) (DB.of (dx_isT .str rfl hO T.b_isinstance (by decide +kernel) (db_var 1) T.b_str (by decide +kernel))) (by first | exact nomark _ | rfl)) (dx_one (dx_cmp (od_eq rfl hr.units) (db_var 0) (db_var 1) (by first | exact nomark _ | rfl))))))))))
/-! ### _law_least -/
theorem sc__law_least : FnScope ["signs", "by", "row", "place", "weight", "a", "b"] ["signs", "by", "row"] (defScope s__law_least) := ⟨rfl, rfl, rfl, by decide +kernel, rfl, by decide +kernel, by decide +kernel⟩
def B__law_least_6 : Ts := (wRet (wTup (wCons (wC (.str "seen")) wNil)))
def B__law_least_4 : Ts := (wIfS (wAnd (wTst (wOp gNe (wLook 5) (wLook 6))) (wTst (wOp gEq (wOp gMod (wCB gInt (wCons (wOp gMul (wOp gSub (wLook 5) (wLook 6)) (wLook 4)) wNil)) (wLook 1)) (wC (.int 0))))) (wRet (wTup (wCons (wC (.str "place")) (wCons (wVal 3) (wCons (wVal 5) (wCons (wVal 6) wNil)))))) wSkip)
def B__law_least_3 : Ts := (wFor (wiR1 (wLook 0)) (gN 6) B__law_least_4)
def B__law_least_2 : Ts := (wFor (wiR1 (wLook 0)) (gN 5) B__law_least_3)
def B__law_least : Ts := (wSeq (wFor (wiEn (wVal 2)) (gTup 2 (gCons (gN 3) (gCons (gN 4) gNil))) B__law_least_2)
  B__law_least_6)
def T__law_least : Fn := wFn 7 B__law_least
theorem ok__law_least (T : Txt mg) (hO : ∀ c C, G.CT c = some C → ObjCls G.K C) (F : Fun G.K "_law_least" "_law_least" s__law_least f fd) : FnOk P w G.K mg base (L2.CX P w) 1 f fd ["signs", "by", "row"] (spD G 3 T__law_least) := fn_ok F sc__law_least rfl (fun cdv A outer s H E S eS hr => by
  subst eS
  have nd := sc__law_least.nd
  have hu65 : A.units + 3 + 65 < cLine := by have := hr.un; show _ < _; have e : (A.deeper (envOfC "_law_least" (defScope s__law_least) s.heap.objs.size f cdv)).units = A.units + 3 := rfl; omega
  exact (dss_cons (ds_for rfl (di_enL mdS rfl T.b_enumerate (dx_var 2)) (dg_tup rfl rfl (dgs_cons (dg_name 3 nd) (dgs_cons (dg_name 4 nd) dgs_nil))) (dss_one (ds_for rfl (di_r1 T.b_range (db_var 0)) (dg_name 5 nd) (dss_one (ds_for rfl (di_r1 T.b_range (db_var 0)) (dg_name 6 nd) (dss_one (ds_if (DW.dt (dw_and (dt_cmp (od_ne rfl hr.units) (db_var 5) (db_var 6) (by first | exact nomark _ | rfl)) (dw_and1 (dt_cmp (od_eq rfl hr.units) (DB.of (dx_op (od_mod) (DB.of (dx_cty (cd_int) T.b_int (by decide +kernel) (da_cB (DB.of (dx_op (od_mul rfl) (DB.of (dx_op (od_sub) (db_var 5) (db_var 6))) (db_var 4))) da_nil))) (db_var 1))) (DB.of dx_int) (by first | exact nomark _ | rfl))))) (dss_one (ds_ret (dx_tup (da_cS dx_str (da_cS (dx_var 3) (da_cS (dx_var 5) (da_cS (dx_var 6) da_nil))))))) dss_nil)))))))
  (dss_one (ds_ret (dx_tup (da_cS dx_str da_nil))))))
/-! ### is_unseen -/
theorem sc_is_unseen : FnScope ["by", "number"] ["by", "number"] (defScope s_is_unseen) := ⟨rfl, rfl, rfl, by decide +kernel, rfl, by decide +kernel, by decide +kernel⟩
def B_is_unseen : Ts := (wRet (wOp gEq (wOp gMod (wLook 1) (wLook 0)) (wC (.int 0))))
def T_is_unseen : Fn := wFn 2 B_is_unseen
theorem ok_is_unseen (T : Txt mg) (hO : ∀ c C, G.CT c = some C → ObjCls G.K C) (F : Fun G.K "is_unseen" "is_unseen" s_is_unseen f fd) : FnOk P w G.K mg base (L2.CX P w) 1 f fd ["by", "number"] (spD G 2 T_is_unseen) := fn_ok F sc_is_unseen rfl (fun cdv A outer s H E S eS hr => by
  subst eS
  have nd := sc_is_unseen.nd
  have hu65 : A.units + 3 + 65 < cLine := by have := hr.un; show _ < _; have e : (A.deeper (envOfC "is_unseen" (defScope s_is_unseen) s.heap.objs.size f cdv)).units = A.units + 3 := rfl; omega
  exact (dss_one (ds_ret (dx_cmp (od_eq rfl hr.units) (DB.of (dx_op (od_mod) (db_var 1) (db_var 0))) (DB.of dx_int) (by first | exact nomark _ | rfl)))))
/-! ### is_integer -/
theorem sc_is_integer : FnScope ["thing"] ["thing"] (defScope s_is_integer) := ⟨rfl, rfl, rfl, by decide +kernel, rfl, by decide +kernel, by decide +kernel⟩
def B_is_integer : Ts := (wRet (wAndV (wIsT .int (wLook 0)) (wNotV (wIsT .bool (wLook 0)))))
def T_is_integer : Fn := wFn 1 B_is_integer
theorem ok_is_integer (T : Txt mg) (hO : ∀ c C, G.CT c = some C → ObjCls G.K C) (F : Fun G.K "is_integer" "is_integer" s_is_integer f fd) : FnOk P w G.K mg base (L2.CX P w) 1 f fd ["thing"] (spD G 1 T_is_integer) := fn_ok F sc_is_integer rfl (fun cdv A outer s H E S eS hr => by
  subst eS
  have nd := sc_is_integer.nd
  have hu65 : A.units + 3 + 65 < cLine := by have := hr.un; show _ < _; have e : (A.deeper (envOfC "is_integer" (defScope s_is_integer) s.heap.objs.size f cdv)).units = A.units + 3 := rfl; omega
  exact (dss_one (ds_ret (dx_and (dx_isT .int rfl hO T.b_isinstance (by decide +kernel) (db_var 0) T.b_int (by decide +kernel)) (dx_one (dx_not (dx_isT .bool rfl hO T.b_isinstance (by decide +kernel) (db_var 0) T.b_bool (by decide +kernel))))))))
/-! ### is_within -/
theorem sc_is_within : FnScope ["thing", "least", "most"] ["thing", "least", "most"] (defScope s_is_within) := ⟨rfl, rfl, rfl, by decide +kernel, rfl, by decide +kernel, by decide +kernel⟩
def B_is_within : Ts := (wRet (wAndV (wCall 1 T_is_integer (wCons (wVal 0) wNil)) (wChain gLe gLe (wLook 1) (wLook 0) (wLook 2))))
def T_is_within : Fn := wFn 3 B_is_within
theorem ok_is_within (T : Txt mg) (hO : ∀ c C, G.CT c = some C → ObjCls G.K C) (C_is_integer : Cal P w G mg base "is_integer" 1 1 T_is_integer) (F : Fun G.K "is_within" "is_within" s_is_within f fd) : FnOk P w G.K mg base (L2.CX P w) 2 f fd ["thing", "least", "most"] (spD G 3 T_is_within) := fn_ok F sc_is_within rfl (fun cdv A outer s H E S eS hr => by
  subst eS
  have nd := sc_is_within.nd
  have hu65 : A.units + 3 + 65 < cLine := by have := hr.un; show _ < _; have e : (A.deeper (envOfC "is_within" (defScope s_is_within) s.heap.objs.size f cdv)).units = A.units + 3 := rfl; omega
  exact (dss_one (ds_ret (dx_and (dx_call C_is_integer rfl (hr.mono (by decide)) (da_cS (dx_var 0) da_nil)) (dx_one (dx_chain (od_le) (od_le) (db_var 1) (db_var 0) (db_var 2)))))))
/-! ### check_number -/
theorem sc_check_number : FnScope ["thing", "least", "most"] ["thing", "least", "most"] (defScope s_check_number) := ⟨rfl, rfl, rfl, by decide +kernel, rfl, by decide +kernel, by decide +kernel⟩
def B_check_number : Ts := (wIfS (wNot (wTst (wCall 3 T_is_within (wCons (wVal 0) (wCons (wVal 1) (wCons (wVal 2) wNil)))))) (wRaise0 "NoNumber") wSkip)
def T_check_number : Fn := wFn 3 B_check_number
theorem ok_check_number (T : Txt mg) (hO : ∀ c C, G.CT c = some C → ObjCls G.K C) (E_NoNumber : ErC P w G mg base "NoNumber" 1 (sp0 G.K)) (C_is_within : Cal P w G mg base "is_within" 2 3 T_is_within) (F : Fun G.K "check_number" "check_number" s_check_number f fd) : FnOk P w G.K mg base (L2.CX P w) 3 f fd ["thing", "least", "most"] (spD G 3 T_check_number) := fn_ok F sc_check_number rfl (fun cdv A outer s H E S eS hr => by
  subst eS
  have nd := sc_check_number.nd
  have hu65 : A.units + 3 + 65 < cLine := by have := hr.un; show _ < _; have e : (A.deeper (envOfC "check_number" (defScope s_check_number) s.heap.objs.size f cdv)).units = A.units + 3 := rfl; omega
  exact (dss_one (ds_if (dt_not (dt_val (dx_call C_is_within rfl (hr.mono (by decide)) (da_cS (dx_var 0) (da_cS (dx_var 1) (da_cS (dx_var 2) da_nil)))))) (dss_one (ds_raise0 rfl rfl E_NoNumber (hr.mono (by decide)))) dss_nil)))
/-! ### is_sized -/
theorem sc_is_sized : FnScope ["thing", "least", "most"] ["thing", "least", "most"] (defScope s_is_sized) := ⟨rfl, rfl, rfl, by decide +kernel, rfl, by decide +kernel, by decide +kernel⟩
def B_is_sized : Ts := (wRet (wAndV (wIsT .tuple (wLook 0)) (wChain gLe gLe (wLook 1) (wCB gLen (wCons (wLook 0) wNil)) (wLook 2))))
def T_is_sized : Fn := wFn 3 B_is_sized
theorem ok_is_sized (T : Txt mg) (hO : ∀ c C, G.CT c = some C → ObjCls G.K C) (F : Fun G.K "is_sized" "is_sized" s_is_sized f fd) : FnOk P w G.K mg base (L2.CX P w) 1 f fd ["thing", "least", "most"] (spD G 3 T_is_sized) := fn_ok F sc_is_sized rfl (fun cdv A outer s H E S eS hr => by
  subst eS
  have nd := sc_is_sized.nd
  have hu65 : A.units + 3 + 65 < cLine := by have := hr.un; show _ < _; have e : (A.deeper (envOfC "is_sized" (defScope s_is_sized) s.heap.objs.size f cdv)).units = A.units + 3 := rfl; omega
  exact (dss_one (ds_ret (dx_and (dx_isT .tuple rfl hO T.b_isinstance (by decide +kernel) (db_var 0) T.b_tuple (by decide +kernel)) (dx_one (dx_chain (od_le) (od_le) (db_var 1) (DB.of (dx_cb (cd_len rfl) T.b_len (by decide +kernel) (da_cB (db_var 0) da_nil))) (db_var 2)))))))
/-! ### check_weights -/
theorem sc_check_weights : FnScope ["signs", "by", "thing", "one"] ["signs", "by", "thing"] (defScope s_check_weights) := ⟨rfl, rfl, rfl, by decide +kernel, rfl, by decide +kernel, by decide +kernel⟩
def B_check_weights_3 : Ts := (wIfS (wOr (wNot (wTst (wCall 3 T_is_sized (wCons (wVal 2) (wCons (wC (.int 1)) (wCons (wC (.int 24)) wNil)))))) (wNot (wTst (wCB gAll (wCons (wF (wLc (wiSq (wLook 2)) (gN 3) wYes (wCall 3 T_is_within (wCons (wVal 3) (wCons (wC (.int 0)) (wCons (wOp gSub (wLook 1) (wC (.int 1))) wNil)))) [3])) wNil))))) (wRaise0 "NoWeights") wSkip)
def B_check_weights_2 : Ts := (wSeq (wDrop (wCall 3 T_check_number (wCons (wVal 1) (wCons (wC (.int 2)) (wCons (wC (.int 200)) wNil)))))
  B_check_weights_3)
def B_check_weights : Ts := (wSeq (wDrop (wCall 3 T_check_number (wCons (wVal 0) (wCons (wC (.int 2)) (wCons (wC (.int 36)) wNil)))))
  B_check_weights_2)
def T_check_weights : Fn := wFn 4 B_check_weights
theorem ok_check_weights (T : Txt mg) (hO : ∀ c C, G.CT c = some C → ObjCls G.K C) (E_NoWeights : ErC P w G mg base "NoWeights" 1 (sp0 G.K)) (C_is_sized : Cal P w G mg base "is_sized" 1 3 T_is_sized) (C_is_within : Cal P w G mg base "is_within" 2 3 T_is_within) (C_check_number : Cal P w G mg base "check_number" 3 3 T_check_number) (F : Fun G.K "check_weights" "check_weights" s_check_weights f fd) : FnOk P w G.K mg base (L2.CX P w) 4 f fd ["signs", "by", "thing"] (spD G 3 T_check_weights) := fn_ok F sc_check_weights rfl (fun cdv A outer s H E S eS hr => by
  subst eS
  have nd := sc_check_weights.nd
  have hu65 : A.units + 3 + 65 < cLine := by have := hr.un; show _ < _; have e : (A.deeper (envOfC "check_weights" (defScope s_check_weights) s.heap.objs.size f cdv)).units = A.units + 3 := rfl; omega
  exact (dss_cons (ds_expr (dx_call C_check_number rfl (hr.mono (by decide)) (da_cS (dx_var 0) (da_cS dx_int (da_cS dx_int da_nil)))))
  (dss_cons (ds_expr (dx_call C_check_number rfl (hr.mono (by decide)) (da_cS (dx_var 1) (da_cS dx_int (da_cS (dx_globI T.c_MOST_BY) da_nil)))))
  (dss_one (ds_if (DW.dt (dw_or (dt_not (dt_val (dx_call C_is_sized rfl (hr.mono (by decide)) (da_cS (dx_var 2) (da_cS dx_int (da_cS (dx_globI T.c_MOST_LONG) da_nil)))))) (dw_or1 (dt_not (dt_val (dx_cb (cd_all rfl) T.b_all (by decide +kernel) (da_cB (DB.of (dx_f (df_lc rfl nd (di_sq mdB rfl (db_var 2)) (blkOk_by (own := [("one", 3)]) (N := ["signs", "by", "thing", "one"]) (sc := (defScope s_check_weights)) (by decide +kernel)) (fun _ _ _ _ _ => (dg_name 3 nd)) (fun _ _ _ _ _ => dif_nil) (fun _ _ _ _ _ => (dx_call C_is_within rfl (hr.mono (by decide)) (da_cS (dx_var 3) (da_cS dx_int (da_cS (dx_op (od_sub) (db_var 1) (DB.of dx_int)) da_nil)))))))) da_nil))))))) (dss_one (ds_raise0 rfl rfl E_NoWeights (hr.mono (by decide)))) dss_nil)))))
/-! ### swap_told -/
theorem sc_swap_told : FnScope ["signs", "by", "weights", "long", "place", "gap", "a", "b"] ["signs", "by", "weights", "long"] (defScope s_swap_told) := ⟨rfl, rfl, rfl, by decide +kernel, rfl, by decide +kernel, by decide +kernel⟩
def B_swap_told_9 : Ts := (wRet (wTup (wCons (wC (.str "seen")) wNil)))
def B_swap_told_7 : Ts := (wIfS (wAnd (wTst (wOp gNe (wLook 6) (wLook 7))) (wTst (wCall 2 T_is_unseen (wCons (wVal 1) (wCons (wOp gMul (wOp gSub (wLook 6) (wLook 7)) (wLook 5)) wNil))))) (wRet (wTup (wCons (wC (.str "place")) (wCons (wVal 4) (wCons (wVal 6) (wCons (wVal 7) wNil)))))) wSkip)
def B_swap_told_6 : Ts := (wFor (wiR1 (wLook 0)) (gN 7) B_swap_told_7)
def B_swap_told_5 : Ts := (wFor (wiR1 (wLook 0)) (gN 6) B_swap_told_6)
def B_swap_told_4 : Ts := (wSeq (wAsg (wOp gSub (wOp gIx (wLook 2) (wOp gMod (wLook 4) (wCB gLen (wCons (wLook 2) wNil)))) (wOp gIx (wLook 2) (wOp gMod (wOp gAdd (wLook 4) (wC (.int 1))) (wCB gLen (wCons (wLook 2) wNil))))) (gN 5))
  B_swap_told_5)
def B_swap_told_3 : Ts := (wSeq (wFor (wiR1 (wOp gSub (wLook 3) (wC (.int 1)))) (gN 4) B_swap_told_4)
  B_swap_told_9)
def B_swap_told_2 : Ts := (wSeq (wDrop (wCall 3 T_check_number (wCons (wVal 3) (wCons (wC (.int 1)) (wCons (wC (.int 24)) wNil)))))
  B_swap_told_3)
def B_swap_told : Ts := (wSeq (wDrop (wCall 3 T_check_weights (wCons (wVal 0) (wCons (wVal 1) (wCons (wVal 2) wNil)))))
  B_swap_told_2)
def T_swap_told : Fn := wFn 8 B_swap_told
theorem ok_swap_told (T : Txt mg) (hO : ∀ c C, G.CT c = some C → ObjCls G.K C) (C_is_unseen : Cal P w G mg base "is_unseen" 1 2 T_is_unseen) (C_check_number : Cal P w G mg base "check_number" 3 3 T_check_number) (C_check_weights : Cal P w G mg base "check_weights" 4 3 T_check_weights) (F : Fun G.K "swap_told" "swap_told" s_swap_told f fd) : FnOk P w G.K mg base (L2.CX P w) 5 f fd ["signs", "by", "weights", "long"] (spD G 4 T_swap_told) := fn_ok F sc_swap_told rfl (fun cdv A outer s H E S eS hr => by
  subst eS
  have nd := sc_swap_told.nd
  have hu65 : A.units + 3 + 65 < cLine := by have := hr.un; show _ < _; have e : (A.deeper (envOfC "swap_told" (defScope s_swap_told) s.heap.objs.size f cdv)).units = A.units + 3 := rfl; omega
  exact (dss_cons (ds_expr (dx_call C_check_weights rfl (hr.mono (by decide)) (da_cS (dx_var 0) (da_cS (dx_var 1) (da_cS (dx_var 2) da_nil)))))
  (dss_cons (ds_expr (dx_call C_check_number rfl (hr.mono (by decide)) (da_cS (dx_var 3) (da_cS dx_int (da_cS (dx_globI T.c_MOST_LONG) da_nil)))))
  (dss_cons (ds_for rfl (di_r1 T.b_range (DB.of (dx_op (od_sub) (db_var 3) (DB.of dx_int)))) (dg_name 4 nd) (dss_cons (ds_set 5 nd (dx_op (od_sub) (DB.of (dx_ix rfl (db_var 2) (DB.of (dx_op (od_mod) (db_var 4) (DB.of (dx_cb (cd_len rfl) T.b_len (by decide +kernel) (da_cB (db_var 2) da_nil))))))) (DB.of (dx_ix rfl (db_var 2) (DB.of (dx_op (od_mod) (DB.of (dx_op (od_add rfl) (db_var 4) (DB.of dx_int))) (DB.of (dx_cb (cd_len rfl) T.b_len (by decide +kernel) (da_cB (db_var 2) da_nil)))))))))
  (dss_one (ds_for rfl (di_r1 T.b_range (db_var 0)) (dg_name 6 nd) (dss_one (ds_for rfl (di_r1 T.b_range (db_var 0)) (dg_name 7 nd) (dss_one (ds_if (DW.dt (dw_and (dt_cmp (od_ne rfl hr.units) (db_var 6) (db_var 7) (by first | exact nomark _ | rfl)) (dw_and1 (dt_val (dx_call C_is_unseen rfl (hr.mono (by decide)) (da_cS (dx_var 1) (da_cS (dx_op (od_mul rfl) (DB.of (dx_op (od_sub) (db_var 6) (db_var 7))) (db_var 5)) da_nil))))))) (dss_one (ds_ret (dx_tup (da_cS dx_str (da_cS (dx_var 4) (da_cS (dx_var 6) (da_cS (dx_var 7) da_nil))))))) dss_nil))))))))
  (dss_one (ds_ret (dx_tup (da_cS dx_str da_nil))))))))
/-! ### _law_common -/
theorem sc__law_common : FnScope ["one", "other"] ["one", "other"] (defScope s__law_common) := ⟨rfl, rfl, rfl, by decide +kernel, rfl, by decide +kernel, by decide +kernel⟩
def B__law_common_3 : Ts := (wRet (wVal 0))
def B__law_common : Ts := (wSeq (wWh (wTst (wOp gNe (wLook 1) (wC (.int 0)))) (wPar (wV (wVal 1)) (wV (wOp gMod (wCB gInt (wCons (wLook 0) wNil)) (wLook 1))) 0 1))
  B__law_common_3)
def T__law_common : Fn := wFn 2 B__law_common
theorem ok__law_common (T : Txt mg) (hO : ∀ c C, G.CT c = some C → ObjCls G.K C) (F : Fun G.K "_law_common" "_law_common" s__law_common f fd) : FnOk P w G.K mg base (L2.CX P w) 1 f fd ["one", "other"] (spD G 2 T__law_common) := fn_ok F sc__law_common rfl (fun cdv A outer s H E S eS hr => by
  subst eS
  have nd := sc__law_common.nd
  have hu65 : A.units + 3 + 65 < cLine := by have := hr.un; show _ < _; have e : (A.deeper (envOfC "_law_common" (defScope s__law_common) s.heap.objs.size f cdv)).units = A.units + 3 := rfl; omega
  exact (dss_cons (ds_while (dt_cmp (od_ne rfl hr.units) (db_var 1) (DB.of dx_int) (by first | exact nomark _ | rfl)) (dss_one (ds_par 0 1 rfl nd (do_v (dx_var 1)) (do_v (dx_op (od_mod) (DB.of (dx_cty (cd_int) T.b_int (by decide +kernel) (da_cB (db_var 0) da_nil))) (db_var 1))) (by rfl))))
  (dss_one (ds_ret (dx_var 0)))))
/-! ### one_told -/
theorem sc_one_told : FnScope ["signs", "by", "weights", "place", "weight", "a", "b"] ["signs", "by", "weights"] (defScope s_one_told) := ⟨rfl, rfl, rfl, by decide +kernel, rfl, by decide +kernel, by decide +kernel⟩
def B_one_told_7 : Ts := (wRet (wTup (wCons (wC (.str "seen")) wNil)))
def B_one_told_5 : Ts := (wIfS (wAnd (wTst (wOp gNe (wLook 5) (wLook 6))) (wTst (wCall 2 T_is_unseen (wCons (wVal 1) (wCons (wOp gMul (wOp gSub (wLook 5) (wLook 6)) (wLook 4)) wNil))))) (wRet (wTup (wCons (wC (.str "place")) (wCons (wVal 3) (wCons (wVal 5) (wCons (wVal 6) wNil)))))) wSkip)
def B_one_told_4 : Ts := (wFor (wiR1 (wLook 0)) (gN 6) B_one_told_5)
def B_one_told_3 : Ts := (wFor (wiR1 (wLook 0)) (gN 5) B_one_told_4)
def B_one_told_2 : Ts := (wSeq (wFor (wiEn (wVal 2)) (gTup 2 (gCons (gN 3) (gCons (gN 4) gNil))) B_one_told_3)
  B_one_told_7)
def B_one_told : Ts := (wSeq (wDrop (wCall 3 T_check_weights (wCons (wVal 0) (wCons (wVal 1) (wCons (wVal 2) wNil)))))
  B_one_told_2)
def T_one_told : Fn := wFn 7 B_one_told
theorem ok_one_told (T : Txt mg) (hO : ∀ c C, G.CT c = some C → ObjCls G.K C) (C_is_unseen : Cal P w G mg base "is_unseen" 1 2 T_is_unseen) (C_check_weights : Cal P w G mg base "check_weights" 4 3 T_check_weights) (F : Fun G.K "one_told" "one_told" s_one_told f fd) : FnOk P w G.K mg base (L2.CX P w) 5 f fd ["signs", "by", "weights"] (spD G 3 T_one_told) := fn_ok F sc_one_told rfl (fun cdv A outer s H E S eS hr => by
  subst eS
  have nd := sc_one_told.nd
  have hu65 : A.units + 3 + 65 < cLine := by have := hr.un; show _ < _; have e : (A.deeper (envOfC "one_told" (defScope s_one_told) s.heap.objs.size f cdv)).units = A.units + 3 := rfl; omega
  exact (dss_cons (ds_expr (dx_call C_check_weights rfl (hr.mono (by decide)) (da_cS (dx_var 0) (da_cS (dx_var 1) (da_cS (dx_var 2) da_nil)))))
  (dss_cons (ds_for rfl (di_enL mdS rfl T.b_enumerate (dx_var 2)) (dg_tup rfl rfl (dgs_cons (dg_name 3 nd) (dgs_cons (dg_name 4 nd) dgs_nil))) (dss_one (ds_for rfl (di_r1 T.b_range (db_var 0)) (dg_name 5 nd) (dss_one (ds_for rfl (di_r1 T.b_range (db_var 0)) (dg_name 6 nd) (dss_one (ds_if (DW.dt (dw_and (dt_cmp (od_ne rfl hr.units) (db_var 5) (db_var 6) (by first | exact nomark _ | rfl)) (dw_and1 (dt_val (dx_call C_is_unseen rfl (hr.mono (by decide)) (da_cS (dx_var 1) (da_cS (dx_op (od_mul rfl) (DB.of (dx_op (od_sub) (db_var 5) (db_var 6))) (db_var 4)) da_nil))))))) (dss_one (ds_ret (dx_tup (da_cS dx_str (da_cS (dx_var 3) (da_cS (dx_var 5) (da_cS (dx_var 6) da_nil))))))) dss_nil)))))))
  (dss_one (ds_ret (dx_tup (da_cS dx_str da_nil)))))))
/-! ### _law_draw -/
theorem sc__law_draw : FnScope ["hand", "many", "cell", "digit", "number"] ["hand", "many"] (defScope s__law_draw) := ⟨rfl, rfl, rfl, by decide +kernel, rfl, by decide +kernel, by decide +kernel⟩
def B__law_draw_15 : Ts := (wRet (wOp gMod (wCB gInt (wCons (wOp gDiv (wLook 4) (wC (.int 16))) wNil)) (wLook 1)))
def B__law_draw_14 : Ts := (wSeq (wAsg (wOp gMod (wCB gInt (wCons (wOp gMul (wLook 4) (wOp gAdd (wOp gDiv (wLook 4) (wC (.int 2003))) (wC (.int 40692)))) wNil)) (wC (.int 2147483399))) (gN 4))
  B__law_draw_15)
def B__law_draw_13 : Ts := (wSeq (wAsg (wOp gMod (wCB gInt (wCons (wOp gMul (wLook 4) (wOp gAdd (wOp gDiv (wLook 4) (wC (.int 1009))) (wC (.int 69621)))) wNil)) (wC (.int 2147483647))) (gN 4))
  B__law_draw_14)
def B__law_draw_12 : Ts := (wSeq (wAsg (wOp gMod (wCB gInt (wCons (wOp gMul (wCB gInt (wCons (wOp gAdd (wOp gIx (wLook 0) (wC (.int 3))) (wOp gMul (wC (.int 7919)) (wOp gIx (wLook 0) (wC (.int 4))))) wNil)) (wC (.int 48271))) wNil)) (wC (.int 2147483647))) (gN 4))
  B__law_draw_13)
def B__law_draw_11 : Ts := (wSeq (wSetIx 0 (wOp gAdd (wOp gIx (wLook 0) (wC (.int 4))) (wC (.int 1))) (wC (.int 4)))
  B__law_draw_12)
def B__law_draw_10 : Ts := (wRet (wVal 3))
def B__law_draw_9 : Ts := (wSeq (wSetIx 0 (wOp gDiv (wOp gIx (wLook 0) (wC (.int 2))) (wLook 1)) (wC (.int 2)))
  B__law_draw_10)
def B__law_draw_8 : Ts := (wSeq (wAsg (wOp gMod (wCB gInt (wCons (wOp gIx (wLook 0) (wC (.int 2))) wNil)) (wLook 1)) (gN 3))
  B__law_draw_9)
def B__law_draw_7 : Ts := (wSeq (wIfS (wTst (wOp gGt (wOp gIx (wLook 0) (wC (.int 2))) (wC (.int 0)))) B__law_draw_8 wSkip)
  B__law_draw_11)
def B__law_draw_5 : Ts := (wIfS (wTst (wOp gGe (wLook 2) (wOp gPow (wC (.int 10)) (wC (.int 18))))) (wSetIx 0 (wVal 2) (wC (.int 2))) wSkip)
def B__law_draw_4 : Ts := (wSeq (wSetIx 0 (wOp gMod (wCB gInt (wCons (wOp gAdd (wOp gAdd (wOp gMul (wOp gIx (wLook 0) (wC (.int 3))) (wC (.int 69621))) (wLook 2)) (wC (.int 41))) wNil)) (wC (.int 2147483629))) (wC (.int 3)))
  B__law_draw_5)
def B__law_draw_3 : Ts := (wSeq (wSetIx 0 (wOp gAdd (wOp gIx (wLook 0) (wC (.int 1))) (wC (.int 1))) (wC (.int 1)))
  B__law_draw_4)
def B__law_draw_2 : Ts := (wSeq (wAsg (wOp gIx (wOp gIx (wLook 0) (wC (.int 0))) (wOp gIx (wLook 0) (wC (.int 1)))) (gN 2))
  B__law_draw_3)
def B__law_draw : Ts := (wSeq (wIfS (wAnd (wTst (wOp gEq (wOp gIx (wLook 0) (wC (.int 2))) (wC (.int 0)))) (wTst (wOp gLt (wOp gIx (wLook 0) (wC (.int 1))) (wCB gLen (wCons (wOp gIx (wLook 0) (wC (.int 0))) wNil))))) B__law_draw_2 wSkip)
  B__law_draw_7)
theorem ok__law_draw (T : Txt mg) (hO : ∀ c C, G.CT c = some C → ObjCls G.K C) (F : Fun G.K "_law_draw" "_law_draw" s__law_draw f fd) (hB : ∀ (h : Addr) (cells : List Int) (p : Nat) (big st cnt m : Int), (∀ x ∈ cells, 0 ≤ x) → 0 ≤ big → 0 ≤ st → 0 ≤ cnt → st < 9223372036854775808 → 0 < m → m < 1073741824 → ∀ Q : Post, (∀ (k : Int) (p' : Nat) (big' st' cnt' : Int) (r : DV.Env), 0 ≤ k → k < m → 0 ≤ big' → 0 ≤ st' → 0 ≤ cnt' → st' < 9223372036854775808 → Q.rt (.int k) (.own h (handL cells p' big' st' cnt') :: r)) → B__law_draw (.own h (handL cells p big st cnt) :: .val (.int m) :: List.replicate (5 - 2) .no) Q) : FnOk P w G.K mg base (L2.CX P w) 1 f fd ["hand", "many"] (spD G 2 wDraw) := draw_fn F sc__law_draw rfl (by decide) (fun cdv A outer s H E S eS hr => by
  subst eS
  have nd := sc__law_draw.nd
  have hu65 : A.units + 3 + 65 < cLine := by have := hr.un; show _ < _; have e : (A.deeper (envOfC "_law_draw" (defScope s__law_draw) s.heap.objs.size f cdv)).units = A.units + 3 := rfl; omega
  exact (dss_cons (ds_if (DW.dt (dw_and (dt_cmp (od_eq rfl hr.units) (DB.of (dx_ix rfl (db_var 0) (DB.of dx_int))) (DB.of dx_int) (by first | exact nomark _ | rfl)) (dw_and1 (dt_cmp (od_lt) (DB.of (dx_ix rfl (db_var 0) (DB.of dx_int))) (DB.of (dx_cb (cd_len rfl) T.b_len (by decide +kernel) (da_cB (DB.of (dx_ix rfl (db_var 0) (DB.of dx_int))) da_nil))) (by first | exact nomark _ | rfl))))) (dss_cons (ds_set 2 nd (dx_ix rfl (DB.of (dx_ix rfl (db_var 0) (DB.of dx_int))) (DB.of (dx_ix rfl (db_var 0) (DB.of dx_int)))))
  (dss_cons (ds_setix 0 (dx_op (od_add rfl) (DB.of (dx_ix rfl (db_var 0) (DB.of dx_int))) (DB.of dx_int)) (DB.of dx_int))
  (dss_cons (ds_setix 0 (dx_op (od_mod) (DB.of (dx_cty (cd_int) T.b_int (by decide +kernel) (da_cB (DB.of (dx_op (od_add rfl) (DB.of (dx_op (od_add rfl) (DB.of (dx_op (od_mul rfl) (DB.of (dx_ix rfl (db_var 0) (DB.of dx_int))) (DB.of dx_int))) (db_var 2))) (DB.of dx_int))) da_nil))) (DB.of dx_int)) (DB.of dx_int))
  (dss_one (ds_if (dt_cmp (od_ge) (db_var 2) (DB.of (dx_op (od_pow) (DB.of dx_int) (DB.of dx_int))) (by first | exact nomark _ | rfl)) (dss_one (ds_setix 0 (dx_var 2) (DB.of dx_int))) dss_nil))))) dss_nil)
  (dss_cons (ds_if (dt_cmp (od_gt) (DB.of (dx_ix rfl (db_var 0) (DB.of dx_int))) (DB.of dx_int) (by first | exact nomark _ | rfl)) (dss_cons (ds_set 3 nd (dx_op (od_mod) (DB.of (dx_cty (cd_int) T.b_int (by decide +kernel) (da_cB (DB.of (dx_ix rfl (db_var 0) (DB.of dx_int))) da_nil))) (db_var 1)))
  (dss_cons (ds_setix 0 (dx_op (od_div) (DB.of (dx_ix rfl (db_var 0) (DB.of dx_int))) (db_var 1)) (DB.of dx_int))
  (dss_one (ds_ret (dx_var 3))))) dss_nil)
  (dss_cons (ds_setix 0 (dx_op (od_add rfl) (DB.of (dx_ix rfl (db_var 0) (DB.of dx_int))) (DB.of dx_int)) (DB.of dx_int))
  (dss_cons (ds_set 4 nd (dx_op (od_mod) (DB.of (dx_cty (cd_int) T.b_int (by decide +kernel) (da_cB (DB.of (dx_op (od_mul rfl) (DB.of (dx_cty (cd_int) T.b_int (by decide +kernel) (da_cB (DB.of (dx_op (od_add rfl) (DB.of (dx_ix rfl (db_var 0) (DB.of dx_int))) (DB.of (dx_op (od_mul rfl) (DB.of dx_int) (DB.of (dx_ix rfl (db_var 0) (DB.of dx_int))))))) da_nil))) (DB.of dx_int))) da_nil))) (DB.of dx_int)))
  (dss_cons (ds_set 4 nd (dx_op (od_mod) (DB.of (dx_cty (cd_int) T.b_int (by decide +kernel) (da_cB (DB.of (dx_op (od_mul rfl) (db_var 4) (DB.of (dx_op (od_add rfl) (DB.of (dx_op (od_div) (db_var 4) (DB.of dx_int))) (DB.of dx_int))))) da_nil))) (DB.of dx_int)))
  (dss_cons (ds_set 4 nd (dx_op (od_mod) (DB.of (dx_cty (cd_int) T.b_int (by decide +kernel) (da_cB (DB.of (dx_op (od_mul rfl) (db_var 4) (DB.of (dx_op (od_add rfl) (DB.of (dx_op (od_div) (db_var 4) (DB.of dx_int))) (DB.of dx_int))))) da_nil))) (DB.of dx_int)))
  (dss_one (ds_ret (dx_op (od_mod) (DB.of (dx_cty (cd_int) T.b_int (by decide +kernel) (da_cB (DB.of (dx_op (od_div) (db_var 4) (DB.of dx_int))) da_nil))) (db_var 1))))))))))) hB
/-! ### _law_weights -/
theorem sc__law_weights : FnScope ["hand", "by", "turn"] ["hand", "by"] (defScope s__law_weights) := ⟨rfl, rfl, rfl, by decide +kernel, rfl, by decide +kernel, by decide +kernel⟩
def B__law_weights : Ts := (wRet (wCB gTuple (wCons (wF (wLc (wiR1 (wOp gAdd (wC (.int 1)) (wCall 2 wDraw (wCons (wVal 0) (wCons (wC (.int 4)) wNil))))) (gN 2) wYes (wCall 2 wDraw (wCons (wVal 0) (wCons (wVal 1) wNil))) [2])) wNil)))
def T__law_weights : Fn := wFn 3 B__law_weights
theorem ok__law_weights (T : Txt mg) (hO : ∀ c C, G.CT c = some C → ObjCls G.K C) (C__law_draw : Cal P w G mg base "_law_draw" 1 2 wDraw) (F : Fun G.K "_law_weights" "_law_weights" s__law_weights f fd) : FnOk P w G.K mg base (L2.CX P w) 2 f fd ["hand", "by"] (spD G 2 T__law_weights) := fn_ok F sc__law_weights rfl (fun cdv A outer s H E S eS hr => by
  subst eS
  have nd := sc__law_weights.nd
  have hu65 : A.units + 3 + 65 < cLine := by have := hr.un; show _ < _; have e : (A.deeper (envOfC "_law_weights" (defScope s__law_weights) s.heap.objs.size f cdv)).units = A.units + 3 := rfl; omega
  exact (dss_one (ds_ret (dx_cty (cd_tuple rfl) T.b_tuple (by decide +kernel) (da_cB (DB.of (dx_f (df_lc rfl nd (di_r1 T.b_range (DB.of (dx_op (od_add rfl) (DB.of dx_int) (DB.of (dx_call C__law_draw rfl (hr.mono (by decide)) (da_cS (dx_var 0) (da_cS dx_int da_nil))))))) (blkOk_by (own := [("turn", 2)]) (N := ["hand", "by", "turn"]) (sc := (defScope s__law_weights)) (by decide +kernel)) (fun _ _ _ _ _ => (dg_name 2 nd)) (fun _ _ _ _ _ => dif_nil) (fun _ _ _ _ _ => (dx_call C__law_draw rfl (hr.mono (by decide)) (da_cS (dx_var 0) (da_cS (dx_var 1) da_nil))))))) da_nil)))))
/-! ### _law_some -/
theorem sc__law_some : FnScope ["hand", "things"] ["hand", "things"] (defScope s__law_some) := ⟨rfl, rfl, rfl, by decide +kernel, rfl, by decide +kernel, by decide +kernel⟩
def B__law_some : Ts := (wRet (wOp gIx (wLook 1) (wCall 2 wDraw (wCons (wVal 0) (wCons (wCB gLen (wCons (wLook 1) wNil)) wNil)))))
def T__law_some : Fn := wFn 2 B__law_some
theorem ok__law_some (T : Txt mg) (hO : ∀ c C, G.CT c = some C → ObjCls G.K C) (C__law_draw : Cal P w G mg base "_law_draw" 1 2 wDraw) (F : Fun G.K "_law_some" "_law_some" s__law_some f fd) : FnOk P w G.K mg base (L2.CX P w) 2 f fd ["hand", "things"] (spD G 2 T__law_some) := fn_ok F sc__law_some rfl (fun cdv A outer s H E S eS hr => by
  subst eS
  have nd := sc__law_some.nd
  have hu65 : A.units + 3 + 65 < cLine := by have := hr.un; show _ < _; have e : (A.deeper (envOfC "_law_some" (defScope s__law_some) s.heap.objs.size f cdv)).units = A.units + 3 := rfl; omega
  exact (dss_one (ds_ret (dx_ix rfl (db_var 1) (DB.of (dx_call C__law_draw rfl (hr.mono (by decide)) (da_cS (dx_var 0) (da_cS (dx_cb (cd_len rfl) T.b_len (by decide +kernel) (da_cB (db_var 1) da_nil)) da_nil))))))))
/-! ### _law_is_right -/
theorem sc__law_is_right : FnScope ["hand", "signs", "by", "weights", "long", "due", "gaps", "place", "told", "word", "other", "sums", "row", "weight", "at", "sign"] ["hand"] (defScope s__law_is_right) := ⟨rfl, rfl, rfl, by decide +kernel, rfl, by decide +kernel, by decide +kernel⟩
def B__law_is_right_23 : Ts := (wRet (wC (.bl true)))
def B__law_is_right_21 : Ts := (wIfS (wTst (wOp gNe (wOp gIx (wLook 11) (wC (.int 0))) (wOp gIx (wLook 11) (wC (.int 1))))) (wRet (wC (.bl false))) wSkip)
def B__law_is_right_19 : Ts := (wSeq (wFor (wiSq (wTup (wCons (wVal 9) (wCons (wVal 10) wNil)))) (gN 12) (wApp 11 (wOp gMod (wCB gInt (wCons (wCB gSum (wCons (wF (wLc (wiEn (wLook 12)) (gTup 2 (gCons (gN 14) (gCons (gN 15) gNil))) wYes (wOp gMul (wLook 15) (wOp gIx (wLook 3) (wOp gMod (wCB gInt (wCons (wLook 14) wNil)) (wCB gLen (wCons (wLook 3) wNil))))) [14, 15])) wNil)) wNil)) (wLook 2))))
  B__law_is_right_21)
def B__law_is_right_18 : Ts := (wSeq (wOwn (wLst wNil) 11)
  B__law_is_right_19)
def B__law_is_right_17 : Ts := (wSeq (wAsg (wOp gAdd (wOp gAdd (wSlc (wLook 9) wNoP (wPart (wLook 7))) (wF (wLst (wCons (wOp gIx (wLook 9) (wOp gAdd (wLook 7) (wC (.int 1)))) (wCons (wOp gIx (wLook 9) (wLook 7)) wNil))))) (wSlc (wLook 9) (wPart (wOp gAdd (wLook 7) (wC (.int 2)))) wNoP)) (gN 10))
  B__law_is_right_18)
def B__law_is_right_16 : Ts := (wSeq (wAsgH (wTup (wCons (wOp gIx (wLook 8) (wC (.int 1))) (wCons (wOp gIx (wLook 8) (wC (.int 2))) (wCons (wOp gIx (wLook 8) (wC (.int 3))) wNil)))) (hTup 3 (hCons (hN (gN 7)) (hCons (hIx 9 (wOp gIx (wLook 8) (wC (.int 1)))) (hCons (hIx 9 (wOp gAdd (wOp gIx (wLook 8) (wC (.int 1))) (wC (.int 1)))) hNil)))))
  B__law_is_right_17)
def B__law_is_right_15 : Ts := (wSeq (wOwn (wRepF (wF (wLst (wCons (wC (.int 0)) wNil))) (wLook 4)) 9)
  B__law_is_right_16)
def B__law_is_right_14 : Ts := (wSeq (wIfS (wTst (wOp gEq (wOp gIx (wLook 8) (wC (.int 0))) (wC (.str "place")))) B__law_is_right_15 wSkip)
  B__law_is_right_23)
def B__law_is_right_12 : Ts := (wSeq (wIfS (wNot (wTst (wCall 2 (T__law_is 3) (wCons (wVal 8) (wCons (wCall 3 T__law_least (wCons (wVal 1) (wCons (wVal 2) (wCons (wVal 6) wNil)))) wNil))))) (wRet (wC (.bl false))) wSkip)
  B__law_is_right_14)
def B__law_is_right_11 : Ts := (wSeq (wAsg (wCall 4 T_swap_told (wCons (wVal 1) (wCons (wVal 2) (wCons (wVal 3) (wCons (wVal 4) wNil))))) (gN 8))
  B__law_is_right_12)
def B__law_is_right_9 : Ts := (wSeq (wFor (wiR1 (wOp gSub (wLook 4) (wC (.int 1)))) (gN 7) (wApp 6 (wOp gSub (wOp gIx (wLook 3) (wOp gMod (wCB gInt (wCons (wLook 7) wNil)) (wCB gLen (wCons (wLook 3) wNil)))) (wOp gIx (wLook 3) (wOp gMod (wCB gInt (wCons (wOp gAdd (wLook 7) (wC (.int 1))) wNil)) (wCB gLen (wCons (wLook 3) wNil)))))))
  B__law_is_right_11)
def B__law_is_right_8 : Ts := (wSeq (wOwn (wLst wNil) 6)
  B__law_is_right_9)
def B__law_is_right_6 : Ts := (wSeq (wIfS (wAnd (wTst (wCB gAll (wCons (wF (wLc (wiSq (wLook 3)) (gN 13) wYes (wAndV (wOp gGe (wLook 2) (wLook 1)) (wOp gEq (wCall 2 T__law_common (wCons (wVal 2) (wCons (wVal 13) wNil))) (wC (.int 1)))) [13])) wNil))) (wTst (wOp gNe (wLook 5) (wTup (wCons (wC (.str "seen")) wNil))))) (wRet (wC (.bl false))) wSkip)
  B__law_is_right_8)
def B__law_is_right_4 : Ts := (wSeq (wIfS (wNot (wTst (wCall 2 (T__law_is 3) (wCons (wCall 3 T_one_told (wCons (wVal 1) (wCons (wVal 2) (wCons (wVal 3) wNil)))) (wCons (wVal 5) wNil))))) (wRet (wC (.bl false))) wSkip)
  B__law_is_right_6)
def B__law_is_right_3 : Ts := (wSeq (wAsg (wCall 3 T__law_least (wCons (wVal 1) (wCons (wVal 2) (wCons (wVal 3) wNil)))) (gN 5))
  B__law_is_right_4)
def B__law_is_right_2 : Ts := (wSeq (wAsg (wTup (wCons (wCall 2 T__law_weights (wCons (wVal 0) (wCons (wVal 2) wNil))) (wCons (wOp gAdd (wC (.int 1)) (wCall 2 wDraw (wCons (wVal 0) (wCons (wC (.int 9)) wNil)))) wNil))) (gTup 2 (gCons (gN 3) (gCons (gN 4) gNil))))
  B__law_is_right_3)
def B__law_is_right : Ts := (wSeq (wAsg (wTup (wCons (wOp gAdd (wC (.int 2)) (wCall 2 wDraw (wCons (wVal 0) (wCons (wC (.int 11)) wNil)))) (wCons (wOp gAdd (wC (.int 2)) (wCall 2 wDraw (wCons (wVal 0) (wCons (wCall 2 T__law_some (wCons (wVal 0) (wCons (wF (wLst (wCons (wC (.int 9)) (wCons (wC (.int 39)) wNil)))) wNil))) wNil)))) wNil))) (gTup 2 (gCons (gN 1) (gCons (gN 2) gNil))))
  B__law_is_right_2)
def T__law_is_right : Fn := wFn 16 B__law_is_right
theorem ok__law_is_right (T : Txt mg) (hO : ∀ c C, G.CT c = some C → ObjCls G.K C) (C__law_is : Cal P w G mg base "_law_is" 4 2 (T__law_is 3)) (C__law_least : Cal P w G mg base "_law_least" 1 3 T__law_least) (C_swap_told : Cal P w G mg base "swap_told" 5 4 T_swap_told) (C__law_common : Cal P w G mg base "_law_common" 1 2 T__law_common) (C_one_told : Cal P w G mg base "one_told" 5 3 T_one_told) (C__law_weights : Cal P w G mg base "_law_weights" 2 2 T__law_weights) (C__law_draw : Cal P w G mg base "_law_draw" 1 2 wDraw) (C__law_some : Cal P w G mg base "_law_some" 2 2 T__law_some) (F : Fun G.K "_law_is_right" "_law_is_right" s__law_is_right f fd) : FnOk P w G.K mg base (L2.CX P w) 6 f fd ["hand"] (spD G 1 T__law_is_right) := fn_ok F sc__law_is_right rfl (fun cdv A outer s H E S eS hr => by
  subst eS
  have nd := sc__law_is_right.nd
  have hu65 : A.units + 3 + 65 < cLine := by have := hr.un; show _ < _; have e : (A.deeper (envOfC "_law_is_right" (defScope s__law_is_right) s.heap.objs.size f cdv)).units = A.units + 3 := rfl; omega
  exact (dss_cons (ds_asg (dx_tup (da_cS (dx_op (od_add rfl) (DB.of dx_int) (DB.of (dx_call C__law_draw rfl (hr.mono (by decide)) (da_cS (dx_var 0) (da_cS dx_int da_nil))))) (da_cS (dx_op (od_add rfl) (DB.of dx_int) (DB.of (dx_call C__law_draw rfl (hr.mono (by decide)) (da_cS (dx_var 0) (da_cS (dx_call C__law_some rfl (hr.mono (by decide)) (da_cS (dx_var 0) (da_cS (dx_f (df_lst (da_cS dx_int (da_cS dx_int da_nil)))) da_nil))) da_nil))))) da_nil))) (dg_tup rfl rfl (dgs_cons (dg_name 1 nd) (dgs_cons (dg_name 2 nd) dgs_nil))))
  (dss_cons (ds_asg (dx_tup (da_cS (dx_call C__law_weights rfl (hr.mono (by decide)) (da_cS (dx_var 0) (da_cS (dx_var 2) da_nil))) (da_cS (dx_op (od_add rfl) (DB.of dx_int) (DB.of (dx_call C__law_draw rfl (hr.mono (by decide)) (da_cS (dx_var 0) (da_cS dx_int da_nil))))) da_nil))) (dg_tup rfl rfl (dgs_cons (dg_name 3 nd) (dgs_cons (dg_name 4 nd) dgs_nil))))
  (dss_cons (ds_set 5 nd (dx_call C__law_least rfl (hr.mono (by decide)) (da_cS (dx_var 1) (da_cS (dx_var 2) (da_cS (dx_var 3) da_nil)))))
  (dss_cons (ds_if (dt_not (dt_val (dx_call C__law_is rfl (hr.mono (by decide)) (da_cS (dx_call C_one_told rfl (hr.mono (by decide)) (da_cS (dx_var 1) (da_cS (dx_var 2) (da_cS (dx_var 3) da_nil)))) (da_cS (dx_var 5) da_nil))))) (dss_one (ds_ret dx_bl)) dss_nil)
  (dss_cons (ds_if (DW.dt (dw_and (dt_val (dx_cb (cd_all rfl) T.b_all (by decide +kernel) (da_cB (DB.of (dx_f (df_lc rfl nd (di_sq mdB rfl (db_var 3)) (blkOk_by (own := [("weight", 13)]) (N := ["hand", "signs", "by", "weights", "long", "due", "gaps", "place", "told", "word", "other", "sums", "row", "weight", "at", "sign"]) (sc := (defScope s__law_is_right)) (by decide +kernel)) (fun _ _ _ _ _ => (dg_name 13 nd)) (fun _ _ _ _ _ => dif_nil) (fun _ _ _ _ _ => (dx_and (dx_cmp (od_ge) (db_var 2) (db_var 1) (by first | exact nomark _ | rfl)) (dx_one (dx_cmp (od_eq rfl hr.units) (DB.of (dx_call C__law_common rfl (hr.mono (by decide)) (da_cS (dx_var 2) (da_cS (dx_var 13) da_nil)))) (DB.of dx_int) (by first | exact nomark _ | rfl)))))))) da_nil))) (dw_and1 (dt_cmp (od_ne rfl hr.units) (db_var 5) (DB.of (dx_tup (da_cS dx_str da_nil))) (by first | exact nomark _ | rfl))))) (dss_one (ds_ret dx_bl)) dss_nil)
  (dss_cons (ds_own 6 nd (df_lst da_nil))
  (dss_cons (ds_for rfl (di_r1 T.b_range (DB.of (dx_op (od_sub) (db_var 4) (DB.of dx_int)))) (dg_name 7 nd) (dss_one (ds_app 6 (dx_op (od_sub) (DB.of (dx_ix rfl (db_var 3) (DB.of (dx_op (od_mod) (DB.of (dx_cty (cd_int) T.b_int (by decide +kernel) (da_cB (db_var 7) da_nil))) (DB.of (dx_cb (cd_len rfl) T.b_len (by decide +kernel) (da_cB (db_var 3) da_nil))))))) (DB.of (dx_ix rfl (db_var 3) (DB.of (dx_op (od_mod) (DB.of (dx_cty (cd_int) T.b_int (by decide +kernel) (da_cB (DB.of (dx_op (od_add rfl) (db_var 7) (DB.of dx_int))) da_nil))) (DB.of (dx_cb (cd_len rfl) T.b_len (by decide +kernel) (da_cB (db_var 3) da_nil)))))))))))
  (dss_cons (ds_set 8 nd (dx_call C_swap_told rfl (hr.mono (by decide)) (da_cS (dx_var 1) (da_cS (dx_var 2) (da_cS (dx_var 3) (da_cS (dx_var 4) da_nil))))))
  (dss_cons (ds_if (dt_not (dt_val (dx_call C__law_is rfl (hr.mono (by decide)) (da_cS (dx_var 8) (da_cS (dx_call C__law_least rfl (hr.mono (by decide)) (da_cS (dx_var 1) (da_cS (dx_var 2) (da_cS (dx_var 6) da_nil)))) da_nil))))) (dss_one (ds_ret dx_bl)) dss_nil)
  (dss_cons (ds_if (dt_cmp (od_eq rfl hr.units) (DB.of (dx_ix rfl (db_var 8) (DB.of dx_int))) (DB.of dx_str) (by first | exact nomark _ | rfl)) (dss_cons (ds_own 9 nd (df_rep (DB.of (dx_f (df_lst (da_cS dx_int da_nil)))) (db_var 4)))
  (dss_cons (ds_asgH (dx_tup (da_cS (dx_ix rfl (db_var 8) (DB.of dx_int)) (da_cS (dx_ix rfl (db_var 8) (DB.of dx_int)) (da_cS (dx_ix rfl (db_var 8) (DB.of dx_int)) da_nil)))) (dh_tup rfl rfl (dhs_cons (dh_of (dg_name 7 nd)) (dhs_cons (dh_ix 9 (DB.of (dx_ix rfl (db_var 8) (DB.of dx_int)))) (dhs_cons (dh_ix 9 (DB.of (dx_op (od_add rfl) (DB.of (dx_ix rfl (db_var 8) (DB.of dx_int))) (DB.of dx_int)))) dhs_nil)))))
  (dss_cons (ds_set 10 nd (dx_op (od_add rfl) (DB.of (dx_op (od_add rfl) (DB.of (dx_slc rfl (db_var 9) dp_none (dp_some (db_var 7)))) (DB.of (dx_f (df_lst (da_cS (dx_ix rfl (db_var 9) (DB.of (dx_op (od_add rfl) (db_var 7) (DB.of dx_int)))) (da_cS (dx_ix rfl (db_var 9) (db_var 7)) da_nil))))))) (DB.of (dx_slc rfl (db_var 9) (dp_some (DB.of (dx_op (od_add rfl) (db_var 7) (DB.of dx_int)))) dp_none))))
  (dss_cons (ds_own 11 nd (df_lst da_nil))
  (dss_cons (ds_for rfl (di_sq mdS rfl (dx_tup (da_cS (dx_var 9) (da_cS (dx_var 10) da_nil)))) (dg_name 12 nd) (dss_one (ds_app 11 (dx_op (od_mod) (DB.of (dx_cty (cd_int) T.b_int (by decide +kernel) (da_cB (DB.of (dx_cb (cd_sum rfl) T.b_sum (by decide +kernel) (da_cB (DB.of (dx_f (df_lc rfl nd (di_enL mdB rfl T.b_enumerate (db_var 12)) (blkOk_by (own := [("at", 14), ("sign", 15)]) (N := ["hand", "signs", "by", "weights", "long", "due", "gaps", "place", "told", "word", "other", "sums", "row", "weight", "at", "sign"]) (sc := (defScope s__law_is_right)) (by decide +kernel)) (fun _ _ _ _ _ => (dg_tup rfl rfl (dgs_cons (dg_name 14 nd) (dgs_cons (dg_name 15 nd) dgs_nil)))) (fun _ _ _ _ _ => dif_nil) (fun _ _ _ _ _ => (dx_op (od_mul rfl) (db_var 15) (DB.of (dx_ix rfl (db_var 3) (DB.of (dx_op (od_mod) (DB.of (dx_cty (cd_int) T.b_int (by decide +kernel) (da_cB (db_var 14) da_nil))) (DB.of (dx_cb (cd_len rfl) T.b_len (by decide +kernel) (da_cB (db_var 3) da_nil)))))))))))) da_nil))) da_nil))) (db_var 2)))))
  (dss_one (ds_if (dt_cmp (od_ne rfl hr.units) (DB.of (dx_ix rfl (db_var 11) (DB.of dx_int))) (DB.of (dx_ix rfl (db_var 11) (DB.of dx_int))) (by first | exact nomark _ | rfl)) (dss_one (ds_ret dx_bl)) dss_nil))))))) dss_nil)
  (dss_one (ds_ret dx_bl)))))))))))))
/-! ### _law_word -/
theorem sc__law_word : FnScope ["call", "found", "error", "flags", "words", "is_one"] ["call"] (defScope s__law_word) := ⟨rfl, rfl, rfl, by decide +kernel, rfl, by decide +kernel, by decide +kernel⟩
def B__law_word_9 (f : Addr) (tD : Tl) : Ts := (wRet (wVal 1))
def B__law_word_8 (a : Addr) (dd : Option Addr) (er : Er) : Ts := (wAsg (wIf (wTst (wVal 5)) (wOp gIx (wLook 4) (wLM gIdx (wLook 3) (wC (.bl true)))) (wC (.str "other"))) (gN 1))
def B__law_word_7 (a : Addr) (dd : Option Addr) (er : Er) : Ts := (wSeq (wAsg (wAndV (wOp gEq (wLM gCnt (wLook 3) (wC (.bl true))) (wC (.int 1))) (wIsE 2 a dd er fun _ => true)) (gN 5))
  (B__law_word_8 a dd er))
def B__law_word_6 (a : Addr) (dd : Option Addr) (er : Er) : Ts := (wSeq (wAsg (wF (wLst (wCons (wC (.str "number")) (wCons (wC (.str "weights")) wNil)))) (gN 4))
  (B__law_word_7 a dd er))
def B__law_word_5 (a : Addr) (dd : Option Addr) (er : Er) : Ts := (wSeq (wAsg (wF (wLst (wCons (wIsE 2 a dd er fun n => (["NoNumber"] : List Str).contains n) (wCons (wIsE 2 a dd er fun n => (["NoWeights"] : List Str).contains n) wNil)))) (gN 3))
  (B__law_word_6 a dd er))
def B__law_word_2 (f : Addr) (tD : Tl) : Ts := (wSeq (wTry 2 (wDrop (wAct f tD)) (fun a dd er => (B__law_word_5 a dd er)))
  (B__law_word_9 f tD))
def B__law_word (f : Addr) (tD : Tl) : Ts := (wSeq (wAsg (wC (.str "let")) (gN 1))
  (B__law_word_2 f tD))
def F__law_word : Fl := wFl 6 B__law_word
theorem lam__law_word (T : Txt mg) (hO : ∀ c C, G.CT c = some C → ObjCls G.K C) (X : ErT G mg) (F : Fun G.K "_law_word" "_law_word" s__law_word f fd) (mf : mg "_law_word" = some (.ref f)) (bf : L2.Binds G.K fd ["call"] []) : LamF P w G mg base "_law_word" F__law_word := lamF_of F sc__law_word (by decide) mf bf (fun A stk cdv S2 tD f s H hr eG act => by
  subst eG
  have nd := sc__law_word.nd
  exact (dss_cons (ds_set 1 nd dx_str)
  (dss_cons (ds_tryE 2 rfl rfl nd rfl X.c_CheckError (fun _ _ => (dss_one (ds_expr (act _ _ _ _)))) (fun a oe C dd pn er hz hf hD => (dss_cons (ds_set 3 nd (dx_f (df_lst (da_cS (dx_isEo 2 rfl X.cls hz hf hD X.k_NoNumber T.b_isinstance) (da_cS (dx_isEo 2 rfl X.cls hz hf hD X.k_NoWeights T.b_isinstance) da_nil)))))
  (dss_cons (ds_set 4 nd (dx_f (df_lst (da_cS dx_str (da_cS dx_str da_nil)))))
  (dss_cons (ds_set 5 nd (dx_and (dx_cmp (od_eq rfl hr.units) (DB.of (dx_cnt rfl (db_var 3) (DB.of dx_bl))) (DB.of dx_int) (by first | exact nomark _ | rfl)) (dx_one (dx_isEb 2 rfl X.cls hz hf hD X.kV T.b_isinstance T.b_ValueError (by decide +kernel)))))
  (dss_one (ds_set 1 nd (dx_if (dt_val (dx_var 5)) (dx_ix rfl (db_var 4) (DB.of (dx_idx rfl (db_var 3) (DB.of dx_bl)))) dx_str))))))))
  (dss_one (ds_ret (dx_var 1))))))
/-! ### _law_are_refused -/
theorem sc__law_are_refused : FnScope ["hand", "odd", "bad", "signs", "by", "words"] ["hand"] (defScope s__law_are_refused) := ⟨rfl, rfl, rfl, by decide +kernel, rfl, by decide +kernel, by decide +kernel⟩
def B__law_are_refused_9 : Ts := (wRet (wOp gEq (wLook 5) (wF (wLst (wCons (wC (.str "number")) (wCons (wC (.str "number")) (wCons (wC (.str "weights")) (wCons (wC (.str "weights")) (wCons (wC (.str "number")) wNil)))))))))
def B__law_are_refused_8 : Ts := (wSeq (wApp 5 (wLam F__law_word (wCall 4 T_swap_told (wCons (wC (.int 3)) (wCons (wC (.int 7)) (wCons (wTup (wCons (wC (.int 1)) (wCons (wC (.int 2)) wNil))) (wCons (wCall 2 T__law_some (wCons (wVal 0) (wCons (wOp gAdd (wLook 1) (wF (wLst (wCons (wC (.int 0)) (wCons (wC (.int 25)) wNil))))) wNil))) wNil)))))))
  B__law_are_refused_9)
def B__law_are_refused_7 : Ts := (wSeq (wApp 5 (wLam F__law_word (wCall 4 T_swap_told (wCons (wC (.int 3)) (wCons (wC (.int 7)) (wCons (wVal 2) (wCons (wC (.int 3)) wNil)))))))
  B__law_are_refused_8)
def B__law_are_refused_6 : Ts := (wSeq (wApp 5 (wLam F__law_word (wCall 3 T_one_told (wCons (wC (.int 3)) (wCons (wC (.int 7)) (wCons (wVal 2) wNil))))))
  B__law_are_refused_7)
def B__law_are_refused_5 : Ts := (wSeq (wApp 5 (wLam F__law_word (wCall 3 T_one_told (wCons (wC (.int 3)) (wCons (wVal 4) (wCons (wVal 2) wNil))))))
  B__law_are_refused_6)
def B__law_are_refused_4 : Ts := (wSeq (wOwn (wLst (wCons (wLam F__law_word (wCall 3 T_one_told (wCons (wVal 3) (wCons (wVal 4) (wCons (wVal 2) wNil))))) wNil)) 5)
  B__law_are_refused_5)
def B__law_are_refused_3 : Ts := (wSeq (wAsg (wTup (wCons (wCall 2 T__law_some (wCons (wVal 0) (wCons (wOp gAdd (wLook 1) (wF (wLst (wCons (wC (.int 0)) (wCons (wC (.int 1)) (wCons (wC (.int 37)) wNil)))))) wNil))) (wCons (wCall 2 T__law_some (wCons (wVal 0) (wCons (wOp gAdd (wLook 1) (wF (wLst (wCons (wC (.int 0)) (wCons (wC (.int 1)) (wCons (wC (.int 201)) wNil)))))) wNil))) wNil))) (gTup 2 (gCons (gN 3) (gCons (gN 4) gNil))))
  B__law_are_refused_4)
def B__law_are_refused_2 : Ts := (wSeq (wAsg (wCall 2 T__law_some (wCons (wVal 0) (wCons (wF (wLst (wCons (wC .non) (wCons (wTup wNil) (wCons (wTup (wCons (wC (.int 7)) wNil)) (wCons (wTup (wCons (wNeg (wC (.int 1))) wNil)) (wCons (wF (wLst (wCons (wC (.int 1)) wNil))) (wCons (wTup (wCons (wC (.bl true)) wNil)) (wCons (wTup (wCons (wC (.str "1")) wNil)) (wCons (wOp gMul (wTup (wCons (wC (.int 0)) wNil)) (wC (.int 25))) (wCons (wC (.int 5)) wNil))))))))))) wNil))) (gN 2))
  B__law_are_refused_3)
def B__law_are_refused : Ts := (wSeq (wAsg (wF (wLst (wCons (wNeg (wC (.int 1))) (wCons (wC .non) (wCons (wC (.bl true)) (wCons (wC (.str "2")) (wCons (wTup (wCons (wC (.int 1)) wNil)) wNil))))))) (gN 1))
  B__law_are_refused_2)
def T__law_are_refused : Fn := wFn 6 B__law_are_refused
theorem ok__law_are_refused (T : Txt mg) (hO : ∀ c C, G.CT c = some C → ObjCls G.K C) (X : ErT G mg) (L__law_word : LamF P w G mg base "_law_word" F__law_word) (C_swap_told : Cal P w G mg base "swap_told" 5 4 T_swap_told) (C__law_some : Cal P w G mg base "_law_some" 2 2 T__law_some) (C_one_told : Cal P w G mg base "one_told" 5 3 T_one_told) {c PT : Addr} (TB : LamX.TabB base mg c PT) (mT : (PT, (("_law_are_refused" : Str) ++ ".<locals>." ++ "<lambda>")) ∈ G.T) (uT : ∀ p ∈ G.T, p.1 = PT → p.2 = (("_law_are_refused" : Str) ++ ".<locals>." ++ "<lambda>")) (F : FunC G.K "_law_are_refused" "_law_are_refused" s__law_are_refused f fd c) : FnOk P w G.K mg base (L2.CX P w) 8 f fd ["hand"] (spD G 1 T__law_are_refused) := fn_okC F sc__law_are_refused rfl (fun A outer s H E S eS hr => by
  subst eS
  have nd := sc__law_are_refused.nd
  have hu65 : A.units + 3 + 65 < cLine := by have := hr.un; show _ < _; have e : (A.deeper (envOfC "_law_are_refused" (defScope s__law_are_refused) s.heap.objs.size f (.ref c))).units = A.units + 3 := rfl; omega
  exact (dss_cons (ds_set 1 nd (dx_f (df_lst (da_cS (dx_neg (DB.of dx_int)) (da_cS dx_non (da_cS dx_bl (da_cS dx_str (da_cS (dx_tup (da_cS dx_int da_nil)) da_nil))))))))
  (dss_cons (ds_set 2 nd (dx_call C__law_some rfl (hr.mono (by decide)) (da_cS (dx_var 0) (da_cS (dx_f (df_lst (da_cS dx_non (da_cS (dx_tup da_nil) (da_cS (dx_tup (da_cS dx_int da_nil)) (da_cS (dx_tup (da_cS (dx_neg (DB.of dx_int)) da_nil)) (da_cS (dx_f (df_lst (da_cS dx_int da_nil))) (da_cS (dx_tup (da_cS dx_bl da_nil)) (da_cS (dx_tup (da_cS dx_str da_nil)) (da_cS (dx_op (od_mul rfl) (DB.of (dx_tup (da_cS dx_int da_nil))) (DB.of dx_int)) (da_cS dx_int da_nil))))))))))) da_nil))))
  (dss_cons (ds_asg (dx_tup (da_cS (dx_call C__law_some rfl (hr.mono (by decide)) (da_cS (dx_var 0) (da_cS (dx_op (od_add rfl) (db_var 1) (DB.of (dx_f (df_lst (da_cS dx_int (da_cS dx_int (da_cS dx_int da_nil))))))) da_nil))) (da_cS (dx_call C__law_some rfl (hr.mono (by decide)) (da_cS (dx_var 0) (da_cS (dx_op (od_add rfl) (db_var 1) (DB.of (dx_f (df_lst (da_cS dx_int (da_cS dx_int (da_cS dx_int da_nil))))))) da_nil))) da_nil))) (dg_tup rfl rfl (dgs_cons (dg_name 3 nd) (dgs_cons (dg_name 4 nd) dgs_nil))))
  (dss_cons (ds_own 5 nd (df_lst (da_cS (dx_lamF (k := 5) L__law_word rfl TB rfl mT uT (hr.mono (by decide)) (LamX.lamS_by (by first | decide +kernel | rfl)) (fun _ _ _ _ _ _ _ hl => (dx_call C_one_told rfl (hl.mono (by decide)) (da_cS (dx_var 3) (da_cS (dx_var 4) (da_cS (dx_var 2) da_nil)))))) da_nil)))
  (dss_cons (ds_app 5 (dx_lamF (k := 5) L__law_word rfl TB rfl mT uT (hr.mono (by decide)) (LamX.lamS_by (by first | decide +kernel | rfl)) (fun _ _ _ _ _ _ _ hl => (dx_call C_one_told rfl (hl.mono (by decide)) (da_cS dx_int (da_cS (dx_var 4) (da_cS (dx_var 2) da_nil)))))))
  (dss_cons (ds_app 5 (dx_lamF (k := 5) L__law_word rfl TB rfl mT uT (hr.mono (by decide)) (LamX.lamS_by (by first | decide +kernel | rfl)) (fun _ _ _ _ _ _ _ hl => (dx_call C_one_told rfl (hl.mono (by decide)) (da_cS dx_int (da_cS dx_int (da_cS (dx_var 2) da_nil)))))))
  (dss_cons (ds_app 5 (dx_lamF (k := 5) L__law_word rfl TB rfl mT uT (hr.mono (by decide)) (LamX.lamS_by (by first | decide +kernel | rfl)) (fun _ _ _ _ _ _ _ hl => (dx_call C_swap_told rfl (hl.mono (by decide)) (da_cS dx_int (da_cS dx_int (da_cS (dx_var 2) (da_cS dx_int da_nil))))))))
  (dss_cons (ds_app 5 (dx_lamF (k := 5) L__law_word rfl TB rfl mT uT (hr.mono (by decide)) (LamX.lamS_by (by first | decide +kernel | rfl)) (fun _ _ _ _ _ _ _ hl => (dx_call C_swap_told rfl (hl.mono (by decide)) (da_cS dx_int (da_cS dx_int (da_cS (dx_tup (da_cS dx_int (da_cS dx_int da_nil))) (da_cS (dx_call C__law_some rfl (hl.mono (by decide)) (da_cS (dx_var 0) (da_cS (dx_op (od_add rfl) (db_var 1) (DB.of (dx_f (df_lst (da_cS dx_int (da_cS dx_int da_nil)))))) da_nil))) da_nil))))))))
  (dss_one (ds_ret (dx_cmp (od_eq rfl hr.units) (db_var 5) (DB.of (dx_f (df_lst (da_cS dx_str (da_cS dx_str (da_cS dx_str (da_cS dx_str (da_cS dx_str da_nil)))))))) (by first | exact nomark _ | rfl)))))))))))))
/-! ### law -/
theorem sc_law : FnScope ["script", "hand", "told", "due", "turn"] ["script"] (defScope s_law) := ⟨rfl, rfl, rfl, by decide +kernel, rfl, by decide +kernel, by decide +kernel⟩
def B_law_6 : Ts := (wRet (wCB gAll (wCons (wF (wLc (wiR1 (wC (.int 6))) (gN 4) wYes (wAndV (wCall 1 T__law_is_right (wCons (wVal 1) wNil)) (wCall 1 T__law_are_refused (wCons (wVal 1) wNil))) [4])) wNil)))
def B_law_4 : Ts := (wSeq (wIfS (wNot (wTst (wCall 2 (T__law_is 3) (wCons (wOp gAdd (wLook 2) (wF (wLst (wCons (wCall 4 T_swap_told (wCons (wC (.int 10)) (wCons (wC (.int 11)) (wCons (wTup (wCons (wC (.int 1)) (wCons (wC (.int 3)) wNil))) (wCons (wC (.int 2)) wNil))))) wNil)))) (wCons (wVal 3) wNil))))) (wRet (wC (.bl false))) wSkip)
  B_law_6)
def B_law_3 : Ts := (wSeq (wAsg (wF (wLst (wCons (wTup (wCons (wC (.str "seen")) wNil)) (wCons (wTup (wCons (wC (.str "place")) (wCons (wC (.int 0)) (wCons (wC (.int 0)) (wCons (wC (.int 5)) wNil))))) (wCons (wTup (wCons (wC (.str "place")) (wCons (wC (.int 1)) (wCons (wC (.int 0)) (wCons (wC (.int 5)) wNil))))) (wCons (wTup (wCons (wC (.str "seen")) wNil)) wNil)))))) (gN 3))
  B_law_4)
def B_law : Ts := (wSeq (wAsg (wF (wLst (wCons (wCall 3 T_one_told (wCons (wC (.int 10)) (wCons (wC (.int 10)) (wCons (wTup (wCons (wC (.int 1)) (wCons (wC (.int 3)) wNil))) wNil)))) (wCons (wCall 4 T_swap_told (wCons (wC (.int 10)) (wCons (wC (.int 10)) (wCons (wTup (wCons (wC (.int 1)) (wCons (wC (.int 3)) wNil))) (wCons (wC (.int 4)) wNil))))) (wCons (wCall 3 T_one_told (wCons (wC (.int 10)) (wCons (wC (.int 10)) (wCons (wTup (wCons (wC (.int 1)) (wCons (wC (.int 2)) wNil))) wNil)))) wNil))))) (gN 2))
  B_law_3)
theorem ok_law (T : Txt mg) (hO : ∀ c C, G.CT c = some C → ObjCls G.K C) (C__law_is_right : Cal P w G mg base "_law_is_right" 6 1 T__law_is_right) (C__law_are_refused : Cal P w G mg base "_law_are_refused" 8 1 T__law_are_refused) (C__law_is : Cal P w G mg base "_law_is" 4 2 (T__law_is 3)) (C_swap_told : Cal P w G mg base "swap_told" 5 4 T_swap_told) (C_one_told : Cal P w G mg base "one_told" 5 3 T_one_told) {fh : Addr} {fdh : FuncData} (Fh : FnOk P w G.K mg base (L2.CX P w) 1 fh fdh ["script"] (handSp G)) (mh : mg "_law_hand" = some (.ref fh)) (kh : PySem.W.keepIn G.K (.ref fh) = true) (bh : L2.Binds G.K fdh ["script"] []) (F : Fun G.K "law" "law" s_law f fd) (hB : B_law (.no :: .val .hand :: List.replicate (5 - 2) .no) { nx := fun _ => False, rt := fun d _ => d = .bl true, bk := fun _ => False, ct := fun _ => False, ex := fun _ _ => False }) : FnOk P w G.K mg base (L2.CX P w) 9 f fd ["script"] (lawSp G) := law_fn F sc_law rfl (by decide) rfl (fun cdv A outer s H E hr => ps_set sc_law.nd rfl (Or.inr rfl) (pe_callS Fh (hr.mono (by decide)) rfl mh kh bh (fun σ pins H s e s1 I c => (by obtain ⟨_, _, _, _, _, _, _, _, _, _, _, _, z⟩ := c; exact z.elim)) (pa_cons (pv 0) pa_nil)) ) (fun cdv A outer s H E S eS hr => by
  subst eS
  have nd := sc_law.nd
  have hu65 : A.units + 3 + 65 < cLine := by have := hr.un; show _ < _; have e : (A.deeper (envOfC "law" (defScope s_law) s.heap.objs.size f cdv)).units = A.units + 3 := rfl; omega
  exact (dss_cons (ds_set 2 nd (dx_f (df_lst (da_cS (dx_call C_one_told rfl (hr.mono (by decide)) (da_cS dx_int (da_cS dx_int (da_cS (dx_tup (da_cS dx_int (da_cS dx_int da_nil))) da_nil)))) (da_cS (dx_call C_swap_told rfl (hr.mono (by decide)) (da_cS dx_int (da_cS dx_int (da_cS (dx_tup (da_cS dx_int (da_cS dx_int da_nil))) (da_cS dx_int da_nil))))) (da_cS (dx_call C_one_told rfl (hr.mono (by decide)) (da_cS dx_int (da_cS dx_int (da_cS (dx_tup (da_cS dx_int (da_cS dx_int da_nil))) da_nil)))) da_nil))))))
  (dss_cons (ds_set 3 nd (dx_f (df_lst (da_cS (dx_tup (da_cS dx_str da_nil)) (da_cS (dx_tup (da_cS dx_str (da_cS dx_int (da_cS dx_int (da_cS dx_int da_nil))))) (da_cS (dx_tup (da_cS dx_str (da_cS dx_int (da_cS dx_int (da_cS dx_int da_nil))))) (da_cS (dx_tup (da_cS dx_str da_nil)) da_nil)))))))
  (dss_cons (ds_if (dt_not (dt_val (dx_call C__law_is rfl (hr.mono (by decide)) (da_cS (dx_op (od_add rfl) (db_var 2) (DB.of (dx_f (df_lst (da_cS (dx_call C_swap_told rfl (hr.mono (by decide)) (da_cS dx_int (da_cS dx_int (da_cS (dx_tup (da_cS dx_int (da_cS dx_int da_nil))) (da_cS dx_int da_nil))))) da_nil))))) (da_cS (dx_var 3) da_nil))))) (dss_one (ds_ret dx_bl)) dss_nil)
  (dss_one (ds_ret (dx_cb (cd_all rfl) T.b_all (by decide +kernel) (da_cB (DB.of (dx_f (df_lc rfl nd (di_r1 T.b_range (DB.of dx_int)) (blkOk_by (own := [("turn", 4)]) (N := ["script", "hand", "told", "due", "turn"]) (sc := (defScope s_law)) (by decide +kernel)) (fun _ _ _ _ _ => (dg_name 4 nd)) (fun _ _ _ _ _ => dif_nil) (fun _ _ _ _ _ => (dx_and (dx_call C__law_is_right rfl (hr.mono (by decide)) (da_cS (dx_var 1) da_nil)) (dx_one (dx_call C__law_are_refused rfl (hr.mono (by decide)) (da_cS (dx_var 1) da_nil)))))))) da_nil)))))))) hB
end
abbrev s_init_CheckError : Stmt := inClass (top 1) 0
section
variable {P : Program} {w : World} {K : PySem.W.Frag} {mg : Str → Option Value} {base : Heap} {f : Addr} {fd : FuncData}
theorem sc_init_CheckError : FnScope ["self"] ["self"] (defScope s_init_CheckError) := ⟨rfl, rfl, rfl, by decide +kernel, rfl, by decide +kernel, by decide +kernel⟩
theorem ok_init_CheckError (hm : mg "ValueError" = none) (vV : PySem.W.findCls K (.type "ValueError") (.type "type") "__init__" = some (.val (.builtin "ValueError.__init__"))) (F : Fun K "__init__" "CheckError.__init__" s_init_CheckError f fd) : FnOk P w K mg base (L2.CX P w) 1 f fd ["self"] (sp0 K) := by
  refine F.okX sc_init_CheckError (fun vs H Q E h => ?_) fun cdv A outer s H E vs Q hr h => ?_
  · obtain ⟨a, C, rfl, _⟩ := h
    rfl
  · obtain ⟨a, C, rfl, hO, ha, hq⟩ := h
    exact ⟨_, pss_one (ps_expr (pe_veinit rfl hm vV (pa_cons (pv 0) pa_nil))), .ref a, rfl, a, C, [], rfl, by simp, hO, ha, hq⟩
end
end Law

set_option Elab.async false
set_option linter.all false
set_option maxRecDepth 100000
namespace Law
open PySem PySem.Spec PyProof.Rows L2 DV
theorem hb_hand : ∀ (ns : List Int), ns.length ≤ 63 → ∀ Q : Post, (∀ (a : Addr) (cells : List Int) (seed : Int) (r : DV.Env), (∀ x ∈ cells, 0 ≤ x) → 0 ≤ seed → seed < 9223372036854775808 → Q.rf (.own a (handL cells 0 0 seed 0)) r) → B__law_hand (.val (.frz (ns.map D.int)) :: List.replicate (3 - 1) .no) Q := by
  intro ns hl Q h
  have e0 : DV.cutD (ns.map D.int) none (some 63) = (ns.take 63).map D.int := by
    unfold DV.cutD
    rw [HT.sIx_none, show (some 63 : Option Int) = some ((63 : Nat) : Int) from rfl, HT.sIx_nat, List.drop_zero, List.length_map, Nat.sub_zero, Nat.min_eq_right hl, List.take_of_length_le (by simp), List.take_of_length_le hl]
  unfold B__law_hand
  simp only [wSeq, wAsg, wOwn, wF, wLc, wSkip, wBrk, wCnt, wRet, wRetF, wRetN, wDrop, wIfS, wPar, wFor, wWh, wV, wApp, wExt, wSetIx, wAug, wVal, wLook, wC, wOp, wTst, wChain, wAnd, wOr, wNot, wAndV, wOrV, wNotV, wIf, wNil, wCons, wTup, wLst, wCall, wCB, wIsT, wiR1, wiR2, wiSq, wiEn, wiZip, gN, gT1, gT2, gT3, gT4, gT5, gT6, gT7, wYes, gAdd, DV.gSub, gMul, gMod, gDiv, gPow, gLt, gLe, gGt, gGe, gCmp, gEq, gNe, gIs, gIsN, DV.isNon, gIn, gNotIn, gIx, gSlc, wSlc, wNoP, wPart, gLen, gAbs, gInt, gMin2, gMax2, gAll, gAny, gSum, gTuple, wNeg, wRev, itemsOf, D.isTy, D.isHand, Sl.toD, big_0, big_1, big_2, big_3, big_4, big_5, big_6, big_7, big_8, big_9, big_10, big_11, big_12, draw_iff, own_ex, val_ex, wipeE, restE, Sl.keep, Option.getD_some, get_z, get_s, set_z, set_s, List.length_cons, List.length_nil, atI_0, atI_1, atI_2, atI_3, atI_4, ixN_5_0, ixN_5_1, ixN_5_2, ixN_5_3, ixN_5_4, D.bl.injEq, D.int.injEq, D.lst.injEq, D.tup.injEq, D.str.injEq, Sl.own.injEq, Sl.val.injEq, Option.some.injEq, exists_eq_left', exists_eq_left, exists_eq', exists_eq, or_true, true_or, or_false, false_or, CMul, CPow, natAbs_10, natAbs_2, Int.cast_ofNat_Int, Nat.reducePow, exists_and_left, exists_const, and_assoc, true_and, and_true, and_self, false_and, and_false, if_true, if_false, ite_true, ite_false, reduceCtorEq, decide_true, decide_false, decide_eq_true_eq, decide_eq_false_iff_not, Bool.not_true, Bool.not_false, Bool.false_eq_true, List.replicate_zero, List.replicate_succ, List.map_cons, List.map_nil, List.nil_append, List.cons_append, Nat.reduceSub, Nat.reduceAdd, Nat.reduceLeDiff, Nat.reduceLT, Int.reduceLT, Int.reduceLE, Int.reduceAdd, Int.reduceSub, Int.reduceMul, Int.reduceNeg, Int.reduceMod, Int.reduceDiv, Int.reducePow, Int.reduceToNat, okD_int, okD_bl, okD_lst, okD_tup, okD_non, okL_nil, okL_cons, okD_str, okL_int, eqD_int, eqD_bl, eqD_str, eqD_tup, eqD_lst, eqL_cons, eqL_nil, eqL_cn, eqL_nc, eqL_int, Bool.and_eq_true, Bool.or_eq_true, Bool.not_eq_true', Bool.and_false, Bool.false_and, Bool.or_false, Bool.false_or, Bool.or_true, Bool.true_or, Bool.and_true, Bool.true_and, Bool.and_self, wIsT2, wDct0, wLstOf, wRepF, wAsgH, DV.hN, hIx, hCons, hNil, hTup, wLM, gCnt, gIdx, gList, gSorted, wAppPop, wRaise0, wRaise1, wTry, wIsE, wAct, wFl, flD, okD_bl, e0]
  refine ⟨by unfold big; simp; omega, ?_⟩
  refine lc_map (fun d => match d with | .int i => .int (if i < 0 then -i else i) | d => d) (fun x hx K' hk => ?_) fun a => ?_
  · obtain ⟨i, _, rfl⟩ := List.mem_map.mp hx
    (try simp only [wSeq, wAsg, wOwn, wF, wLc, wSkip, wBrk, wCnt, wRet, wRetF, wRetN, wDrop, wIfS, wPar, wFor, wWh, wV, wApp, wExt, wSetIx, wAug, wVal, wLook, wC, wOp, wTst, wChain, wAnd, wOr, wNot, wAndV, wOrV, wNotV, wIf, wNil, wCons, wTup, wLst, wCall, wCB, wIsT, wiR1, wiR2, wiSq, wiEn, wiZip, gN, gT1, gT2, gT3, gT4, gT5, gT6, gT7, wYes, gAdd, DV.gSub, gMul, gMod, gDiv, gPow, gLt, gLe, gGt, gGe, gCmp, gEq, gNe, gIs, gIsN, DV.isNon, gIn, gNotIn, gIx, gSlc, wSlc, wNoP, wPart, gLen, gAbs, gInt, gMin2, gMax2, gAll, gAny, gSum, gTuple, wNeg, wRev, itemsOf, D.isTy, D.isHand, Sl.toD, big_0, big_1, big_2, big_3, big_4, big_5, big_6, big_7, big_8, big_9, big_10, big_11, big_12, draw_iff, own_ex, val_ex, wipeE, restE, Sl.keep, Option.getD_some, get_z, get_s, set_z, set_s, List.length_cons, List.length_nil, atI_0, atI_1, atI_2, atI_3, atI_4, ixN_5_0, ixN_5_1, ixN_5_2, ixN_5_3, ixN_5_4, D.bl.injEq, D.int.injEq, D.lst.injEq, D.tup.injEq, D.str.injEq, Sl.own.injEq, Sl.val.injEq, Option.some.injEq, exists_eq_left', exists_eq_left, exists_eq', exists_eq, or_true, true_or, or_false, false_or, CMul, CPow, natAbs_10, natAbs_2, Int.cast_ofNat_Int, Nat.reducePow, exists_and_left, exists_const, and_assoc, true_and, and_true, and_self, false_and, and_false, if_true, if_false, ite_true, ite_false, reduceCtorEq, decide_true, decide_false, decide_eq_true_eq, decide_eq_false_iff_not, Bool.not_true, Bool.not_false, Bool.false_eq_true, List.replicate_zero, List.replicate_succ, List.map_cons, List.map_nil, List.nil_append, List.cons_append, Nat.reduceSub, Nat.reduceAdd, Nat.reduceLeDiff, Nat.reduceLT, Int.reduceLT, Int.reduceLE, Int.reduceAdd, Int.reduceSub, Int.reduceMul, Int.reduceNeg, Int.reduceMod, Int.reduceDiv, Int.reducePow, Int.reduceToNat, okD_int, okD_bl, okD_lst, okD_tup, okD_non, okL_nil, okL_cons, okD_str, okL_int, eqD_int, eqD_bl, eqD_str, eqD_tup, eqD_lst, eqL_cons, eqL_nil, eqL_cn, eqL_nc, eqL_int, Bool.and_eq_true, Bool.or_eq_true, Bool.not_eq_true', Bool.and_false, Bool.false_and, Bool.or_false, Bool.false_or, Bool.or_true, Bool.true_or, Bool.and_true, Bool.true_and, Bool.and_self, wIsT2, wDct0, wLstOf, wRepF, wAsgH, DV.hN, hIx, hCons, hNil, hTup, wLM, gCnt, gIdx, gList, gSorted, wAppPop, wRaise0, wRaise1, wTry, wIsE, wAct, wFl, flD, okD_bl])
    exact hk
  · unfold B__law_hand_2
    have e1 : List.map (fun d => match d with | .int i => .int (if i < 0 then -i else i) | d => d) (List.map D.int (List.take 63 ns)) = ((ns.take 63).map fun i => if i < 0 then -i else i).map D.int := by
      rw [List.map_map, List.map_map]; rfl
    simp only [wSeq, wAsg, wOwn, wF, wLc, wSkip, wBrk, wCnt, wRet, wRetF, wRetN, wDrop, wIfS, wPar, wFor, wWh, wV, wApp, wExt, wSetIx, wAug, wVal, wLook, wC, wOp, wTst, wChain, wAnd, wOr, wNot, wAndV, wOrV, wNotV, wIf, wNil, wCons, wTup, wLst, wCall, wCB, wIsT, wiR1, wiR2, wiSq, wiEn, wiZip, gN, gT1, gT2, gT3, gT4, gT5, gT6, gT7, wYes, gAdd, DV.gSub, gMul, gMod, gDiv, gPow, gLt, gLe, gGt, gGe, gCmp, gEq, gNe, gIs, gIsN, DV.isNon, gIn, gNotIn, gIx, gSlc, wSlc, wNoP, wPart, gLen, gAbs, gInt, gMin2, gMax2, gAll, gAny, gSum, gTuple, wNeg, wRev, itemsOf, D.isTy, D.isHand, Sl.toD, big_0, big_1, big_2, big_3, big_4, big_5, big_6, big_7, big_8, big_9, big_10, big_11, big_12, draw_iff, own_ex, val_ex, wipeE, restE, Sl.keep, Option.getD_some, get_z, get_s, set_z, set_s, List.length_cons, List.length_nil, atI_0, atI_1, atI_2, atI_3, atI_4, ixN_5_0, ixN_5_1, ixN_5_2, ixN_5_3, ixN_5_4, D.bl.injEq, D.int.injEq, D.lst.injEq, D.tup.injEq, D.str.injEq, Sl.own.injEq, Sl.val.injEq, Option.some.injEq, exists_eq_left', exists_eq_left, exists_eq', exists_eq, or_true, true_or, or_false, false_or, CMul, CPow, natAbs_10, natAbs_2, Int.cast_ofNat_Int, Nat.reducePow, exists_and_left, exists_const, and_assoc, true_and, and_true, and_self, false_and, and_false, if_true, if_false, ite_true, ite_false, reduceCtorEq, decide_true, decide_false, decide_eq_true_eq, decide_eq_false_iff_not, Bool.not_true, Bool.not_false, Bool.false_eq_true, List.replicate_zero, List.replicate_succ, List.map_cons, List.map_nil, List.nil_append, List.cons_append, Nat.reduceSub, Nat.reduceAdd, Nat.reduceLeDiff, Nat.reduceLT, Int.reduceLT, Int.reduceLE, Int.reduceAdd, Int.reduceSub, Int.reduceMul, Int.reduceNeg, Int.reduceMod, Int.reduceDiv, Int.reducePow, Int.reduceToNat, okD_int, okD_bl, okD_lst, okD_tup, okD_non, okL_nil, okL_cons, okD_str, okL_int, eqD_int, eqD_bl, eqD_str, eqD_tup, eqD_lst, eqL_cons, eqL_nil, eqL_cn, eqL_nc, eqL_int, Bool.and_eq_true, Bool.or_eq_true, Bool.not_eq_true', Bool.and_false, Bool.false_and, Bool.or_false, Bool.false_or, Bool.or_true, Bool.true_or, Bool.and_true, Bool.true_and, Bool.and_self, wIsT2, wDct0, wLstOf, wRepF, wAsgH, DV.hN, hIx, hCons, hNil, hTup, wLM, gCnt, gIdx, gList, gSorted, wAppPop, wRaise0, wRaise1, wTry, wIsE, wAct, wFl, flD, okD_bl, e1]
    refine (fun b => h b _ _ _ (fun x hx => ?_) (by omega) (by simp; omega))
    obtain ⟨i, _, rfl⟩ := List.mem_map.mp hx
    split <;> omega

theorem hb_draw : ∀ (h : Addr) (cells : List Int) (p : Nat) (big st cnt m : Int), (∀ x ∈ cells, 0 ≤ x) → 0 ≤ big → 0 ≤ st → 0 ≤ cnt → st < 9223372036854775808 → 0 < m → m < 1073741824 → ∀ Q : Post, (∀ (k : Int) (p' : Nat) (big' st' cnt' : Int) (r : DV.Env), 0 ≤ k → k < m → 0 ≤ big' → 0 ≤ st' → 0 ≤ cnt' → st' < 9223372036854775808 → Q.rt (.int k) (.own h (handL cells p' big' st' cnt') :: r)) → B__law_draw (.own h (handL cells p big st cnt) :: .val (.int m) :: List.replicate (5 - 2) .no) Q := by
  intro h cells p bg st cnt m hc hb hs hn hs2 hm hm2 Q hq
  have last : ∀ (p : Nat) (bg st cnt : Int) (x3 x4 : Sl), 0 ≤ bg → 0 ≤ st → 0 ≤ cnt → st < 9223372036854775808 → ∀ x2 : Sl, B__law_draw_7 [.own h (handL cells p bg st cnt), .val (.int m), x2, x3, x4] Q := by
    intro p bg st cnt x3 x4 hb hs hn hs2 x2
    unfold B__law_draw_7 handL
    (try simp only [wSeq, wAsg, wOwn, wF, wLc, wSkip, wBrk, wCnt, wRet, wRetF, wRetN, wDrop, wIfS, wPar, wFor, wWh, wV, wApp, wExt, wSetIx, wAug, wVal, wLook, wC, wOp, wTst, wChain, wAnd, wOr, wNot, wAndV, wOrV, wNotV, wIf, wNil, wCons, wTup, wLst, wCall, wCB, wIsT, wiR1, wiR2, wiSq, wiEn, wiZip, gN, gT1, gT2, gT3, gT4, gT5, gT6, gT7, wYes, gAdd, DV.gSub, gMul, gMod, gDiv, gPow, gLt, gLe, gGt, gGe, gCmp, gEq, gNe, gIs, gIsN, DV.isNon, gIn, gNotIn, gIx, gSlc, wSlc, wNoP, wPart, gLen, gAbs, gInt, gMin2, gMax2, gAll, gAny, gSum, gTuple, wNeg, wRev, itemsOf, D.isTy, D.isHand, Sl.toD, big_0, big_1, big_2, big_3, big_4, big_5, big_6, big_7, big_8, big_9, big_10, big_11, big_12, draw_iff, own_ex, val_ex, wipeE, restE, Sl.keep, Option.getD_some, get_z, get_s, set_z, set_s, List.length_cons, List.length_nil, atI_0, atI_1, atI_2, atI_3, atI_4, ixN_5_0, ixN_5_1, ixN_5_2, ixN_5_3, ixN_5_4, D.bl.injEq, D.int.injEq, D.lst.injEq, D.tup.injEq, D.str.injEq, Sl.own.injEq, Sl.val.injEq, Option.some.injEq, exists_eq_left', exists_eq_left, exists_eq', exists_eq, or_true, true_or, or_false, false_or, CMul, CPow, natAbs_10, natAbs_2, Int.cast_ofNat_Int, Nat.reducePow, exists_and_left, exists_const, and_assoc, true_and, and_true, and_self, false_and, and_false, if_true, if_false, ite_true, ite_false, reduceCtorEq, decide_true, decide_false, decide_eq_true_eq, decide_eq_false_iff_not, Bool.not_true, Bool.not_false, Bool.false_eq_true, List.replicate_zero, List.replicate_succ, List.map_cons, List.map_nil, List.nil_append, List.cons_append, Nat.reduceSub, Nat.reduceAdd, Nat.reduceLeDiff, Nat.reduceLT, Int.reduceLT, Int.reduceLE, Int.reduceAdd, Int.reduceSub, Int.reduceMul, Int.reduceNeg, Int.reduceMod, Int.reduceDiv, Int.reducePow, Int.reduceToNat, okD_int, okD_bl, okD_lst, okD_tup, okD_non, okL_nil, okL_cons, okD_str, okL_int, eqD_int, eqD_bl, eqD_str, eqD_tup, eqD_lst, eqL_cons, eqL_nil, eqL_cn, eqL_nc, eqL_int, Bool.and_eq_true, Bool.or_eq_true, Bool.not_eq_true', Bool.and_false, Bool.false_and, Bool.or_false, Bool.false_or, Bool.or_true, Bool.true_or, Bool.and_true, Bool.true_and, Bool.and_self, wIsT2, wDct0, wLstOf, wRepF, wAsgH, DV.hN, hIx, hCons, hNil, hTup, wLM, gCnt, gIdx, gList, gSorted, wAppPop, wRaise0, wRaise1, wTry, wIsE, wAct, wFl, flD, okD_bl])
    split
    · unfold B__law_draw_8
      (try simp only [wSeq, wAsg, wOwn, wF, wLc, wSkip, wBrk, wCnt, wRet, wRetF, wRetN, wDrop, wIfS, wPar, wFor, wWh, wV, wApp, wExt, wSetIx, wAug, wVal, wLook, wC, wOp, wTst, wChain, wAnd, wOr, wNot, wAndV, wOrV, wNotV, wIf, wNil, wCons, wTup, wLst, wCall, wCB, wIsT, wiR1, wiR2, wiSq, wiEn, wiZip, gN, gT1, gT2, gT3, gT4, gT5, gT6, gT7, wYes, gAdd, DV.gSub, gMul, gMod, gDiv, gPow, gLt, gLe, gGt, gGe, gCmp, gEq, gNe, gIs, gIsN, DV.isNon, gIn, gNotIn, gIx, gSlc, wSlc, wNoP, wPart, gLen, gAbs, gInt, gMin2, gMax2, gAll, gAny, gSum, gTuple, wNeg, wRev, itemsOf, D.isTy, D.isHand, Sl.toD, big_0, big_1, big_2, big_3, big_4, big_5, big_6, big_7, big_8, big_9, big_10, big_11, big_12, draw_iff, own_ex, val_ex, wipeE, restE, Sl.keep, Option.getD_some, get_z, get_s, set_z, set_s, List.length_cons, List.length_nil, atI_0, atI_1, atI_2, atI_3, atI_4, ixN_5_0, ixN_5_1, ixN_5_2, ixN_5_3, ixN_5_4, D.bl.injEq, D.int.injEq, D.lst.injEq, D.tup.injEq, D.str.injEq, Sl.own.injEq, Sl.val.injEq, Option.some.injEq, exists_eq_left', exists_eq_left, exists_eq', exists_eq, or_true, true_or, or_false, false_or, CMul, CPow, natAbs_10, natAbs_2, Int.cast_ofNat_Int, Nat.reducePow, exists_and_left, exists_const, and_assoc, true_and, and_true, and_self, false_and, and_false, if_true, if_false, ite_true, ite_false, reduceCtorEq, decide_true, decide_false, decide_eq_true_eq, decide_eq_false_iff_not, Bool.not_true, Bool.not_false, Bool.false_eq_true, List.replicate_zero, List.replicate_succ, List.map_cons, List.map_nil, List.nil_append, List.cons_append, Nat.reduceSub, Nat.reduceAdd, Nat.reduceLeDiff, Nat.reduceLT, Int.reduceLT, Int.reduceLE, Int.reduceAdd, Int.reduceSub, Int.reduceMul, Int.reduceNeg, Int.reduceMod, Int.reduceDiv, Int.reducePow, Int.reduceToNat, okD_int, okD_bl, okD_lst, okD_tup, okD_non, okL_nil, okL_cons, okD_str, okL_int, eqD_int, eqD_bl, eqD_str, eqD_tup, eqD_lst, eqL_cons, eqL_nil, eqL_cn, eqL_nc, eqL_int, Bool.and_eq_true, Bool.or_eq_true, Bool.not_eq_true', Bool.and_false, Bool.false_and, Bool.or_false, Bool.false_or, Bool.or_true, Bool.true_or, Bool.and_true, Bool.true_and, Bool.and_self, wIsT2, wDct0, wLstOf, wRepF, wAsgH, DV.hN, hIx, hCons, hNil, hTup, wLM, gCnt, gIdx, gList, gSorted, wAppPop, wRaise0, wRaise1, wTry, wIsE, wAct, wFl, flD, okD_bl])
      refine ⟨hm, ?_⟩
      unfold B__law_draw_9
      (try simp only [wSeq, wAsg, wOwn, wF, wLc, wSkip, wBrk, wCnt, wRet, wRetF, wRetN, wDrop, wIfS, wPar, wFor, wWh, wV, wApp, wExt, wSetIx, wAug, wVal, wLook, wC, wOp, wTst, wChain, wAnd, wOr, wNot, wAndV, wOrV, wNotV, wIf, wNil, wCons, wTup, wLst, wCall, wCB, wIsT, wiR1, wiR2, wiSq, wiEn, wiZip, gN, gT1, gT2, gT3, gT4, gT5, gT6, gT7, wYes, gAdd, DV.gSub, gMul, gMod, gDiv, gPow, gLt, gLe, gGt, gGe, gCmp, gEq, gNe, gIs, gIsN, DV.isNon, gIn, gNotIn, gIx, gSlc, wSlc, wNoP, wPart, gLen, gAbs, gInt, gMin2, gMax2, gAll, gAny, gSum, gTuple, wNeg, wRev, itemsOf, D.isTy, D.isHand, Sl.toD, big_0, big_1, big_2, big_3, big_4, big_5, big_6, big_7, big_8, big_9, big_10, big_11, big_12, draw_iff, own_ex, val_ex, wipeE, restE, Sl.keep, Option.getD_some, get_z, get_s, set_z, set_s, List.length_cons, List.length_nil, atI_0, atI_1, atI_2, atI_3, atI_4, ixN_5_0, ixN_5_1, ixN_5_2, ixN_5_3, ixN_5_4, D.bl.injEq, D.int.injEq, D.lst.injEq, D.tup.injEq, D.str.injEq, Sl.own.injEq, Sl.val.injEq, Option.some.injEq, exists_eq_left', exists_eq_left, exists_eq', exists_eq, or_true, true_or, or_false, false_or, CMul, CPow, natAbs_10, natAbs_2, Int.cast_ofNat_Int, Nat.reducePow, exists_and_left, exists_const, and_assoc, true_and, and_true, and_self, false_and, and_false, if_true, if_false, ite_true, ite_false, reduceCtorEq, decide_true, decide_false, decide_eq_true_eq, decide_eq_false_iff_not, Bool.not_true, Bool.not_false, Bool.false_eq_true, List.replicate_zero, List.replicate_succ, List.map_cons, List.map_nil, List.nil_append, List.cons_append, Nat.reduceSub, Nat.reduceAdd, Nat.reduceLeDiff, Nat.reduceLT, Int.reduceLT, Int.reduceLE, Int.reduceAdd, Int.reduceSub, Int.reduceMul, Int.reduceNeg, Int.reduceMod, Int.reduceDiv, Int.reducePow, Int.reduceToNat, okD_int, okD_bl, okD_lst, okD_tup, okD_non, okL_nil, okL_cons, okD_str, okL_int, eqD_int, eqD_bl, eqD_str, eqD_tup, eqD_lst, eqL_cons, eqL_nil, eqL_cn, eqL_nc, eqL_int, Bool.and_eq_true, Bool.or_eq_true, Bool.not_eq_true', Bool.and_false, Bool.false_and, Bool.or_false, Bool.false_or, Bool.or_true, Bool.true_or, Bool.and_true, Bool.true_and, Bool.and_self, wIsT2, wDct0, wLstOf, wRepF, wAsgH, DV.hN, hIx, hCons, hNil, hTup, wLM, gCnt, gIdx, gList, gSorted, wAppPop, wRaise0, wRaise1, wTry, wIsE, wAct, wFl, flD, okD_bl])
      refine ⟨hm, hm2, ?_⟩
      unfold B__law_draw_10
      (try simp only [wSeq, wAsg, wOwn, wF, wLc, wSkip, wBrk, wCnt, wRet, wRetF, wRetN, wDrop, wIfS, wPar, wFor, wWh, wV, wApp, wExt, wSetIx, wAug, wVal, wLook, wC, wOp, wTst, wChain, wAnd, wOr, wNot, wAndV, wOrV, wNotV, wIf, wNil, wCons, wTup, wLst, wCall, wCB, wIsT, wiR1, wiR2, wiSq, wiEn, wiZip, gN, gT1, gT2, gT3, gT4, gT5, gT6, gT7, wYes, gAdd, DV.gSub, gMul, gMod, gDiv, gPow, gLt, gLe, gGt, gGe, gCmp, gEq, gNe, gIs, gIsN, DV.isNon, gIn, gNotIn, gIx, gSlc, wSlc, wNoP, wPart, gLen, gAbs, gInt, gMin2, gMax2, gAll, gAny, gSum, gTuple, wNeg, wRev, itemsOf, D.isTy, D.isHand, Sl.toD, big_0, big_1, big_2, big_3, big_4, big_5, big_6, big_7, big_8, big_9, big_10, big_11, big_12, draw_iff, own_ex, val_ex, wipeE, restE, Sl.keep, Option.getD_some, get_z, get_s, set_z, set_s, List.length_cons, List.length_nil, atI_0, atI_1, atI_2, atI_3, atI_4, ixN_5_0, ixN_5_1, ixN_5_2, ixN_5_3, ixN_5_4, D.bl.injEq, D.int.injEq, D.lst.injEq, D.tup.injEq, D.str.injEq, Sl.own.injEq, Sl.val.injEq, Option.some.injEq, exists_eq_left', exists_eq_left, exists_eq', exists_eq, or_true, true_or, or_false, false_or, CMul, CPow, natAbs_10, natAbs_2, Int.cast_ofNat_Int, Nat.reducePow, exists_and_left, exists_const, and_assoc, true_and, and_true, and_self, false_and, and_false, if_true, if_false, ite_true, ite_false, reduceCtorEq, decide_true, decide_false, decide_eq_true_eq, decide_eq_false_iff_not, Bool.not_true, Bool.not_false, Bool.false_eq_true, List.replicate_zero, List.replicate_succ, List.map_cons, List.map_nil, List.nil_append, List.cons_append, Nat.reduceSub, Nat.reduceAdd, Nat.reduceLeDiff, Nat.reduceLT, Int.reduceLT, Int.reduceLE, Int.reduceAdd, Int.reduceSub, Int.reduceMul, Int.reduceNeg, Int.reduceMod, Int.reduceDiv, Int.reducePow, Int.reduceToNat, okD_int, okD_bl, okD_lst, okD_tup, okD_non, okL_nil, okL_cons, okD_str, okL_int, eqD_int, eqD_bl, eqD_str, eqD_tup, eqD_lst, eqL_cons, eqL_nil, eqL_cn, eqL_nc, eqL_int, Bool.and_eq_true, Bool.or_eq_true, Bool.not_eq_true', Bool.and_false, Bool.false_and, Bool.or_false, Bool.false_or, Bool.or_true, Bool.true_or, Bool.and_true, Bool.true_and, Bool.and_self, wIsT2, wDct0, wLstOf, wRepF, wAsgH, DV.hN, hIx, hCons, hNil, hTup, wLM, gCnt, gIdx, gList, gSorted, wAppPop, wRaise0, wRaise1, wTry, wIsE, wAct, wFl, flD, okD_bl])
      exact hq _ p _ st cnt _ (Int.emod_nonneg _ (by omega)) (Int.emod_lt_of_pos _ hm) (Int.ediv_nonneg hb (by omega)) hs hn hs2
    · unfold B__law_draw_11
      (try simp only [wSeq, wAsg, wOwn, wF, wLc, wSkip, wBrk, wCnt, wRet, wRetF, wRetN, wDrop, wIfS, wPar, wFor, wWh, wV, wApp, wExt, wSetIx, wAug, wVal, wLook, wC, wOp, wTst, wChain, wAnd, wOr, wNot, wAndV, wOrV, wNotV, wIf, wNil, wCons, wTup, wLst, wCall, wCB, wIsT, wiR1, wiR2, wiSq, wiEn, wiZip, gN, gT1, gT2, gT3, gT4, gT5, gT6, gT7, wYes, gAdd, DV.gSub, gMul, gMod, gDiv, gPow, gLt, gLe, gGt, gGe, gCmp, gEq, gNe, gIs, gIsN, DV.isNon, gIn, gNotIn, gIx, gSlc, wSlc, wNoP, wPart, gLen, gAbs, gInt, gMin2, gMax2, gAll, gAny, gSum, gTuple, wNeg, wRev, itemsOf, D.isTy, D.isHand, Sl.toD, big_0, big_1, big_2, big_3, big_4, big_5, big_6, big_7, big_8, big_9, big_10, big_11, big_12, draw_iff, own_ex, val_ex, wipeE, restE, Sl.keep, Option.getD_some, get_z, get_s, set_z, set_s, List.length_cons, List.length_nil, atI_0, atI_1, atI_2, atI_3, atI_4, ixN_5_0, ixN_5_1, ixN_5_2, ixN_5_3, ixN_5_4, D.bl.injEq, D.int.injEq, D.lst.injEq, D.tup.injEq, D.str.injEq, Sl.own.injEq, Sl.val.injEq, Option.some.injEq, exists_eq_left', exists_eq_left, exists_eq', exists_eq, or_true, true_or, or_false, false_or, CMul, CPow, natAbs_10, natAbs_2, Int.cast_ofNat_Int, Nat.reducePow, exists_and_left, exists_const, and_assoc, true_and, and_true, and_self, false_and, and_false, if_true, if_false, ite_true, ite_false, reduceCtorEq, decide_true, decide_false, decide_eq_true_eq, decide_eq_false_iff_not, Bool.not_true, Bool.not_false, Bool.false_eq_true, List.replicate_zero, List.replicate_succ, List.map_cons, List.map_nil, List.nil_append, List.cons_append, Nat.reduceSub, Nat.reduceAdd, Nat.reduceLeDiff, Nat.reduceLT, Int.reduceLT, Int.reduceLE, Int.reduceAdd, Int.reduceSub, Int.reduceMul, Int.reduceNeg, Int.reduceMod, Int.reduceDiv, Int.reducePow, Int.reduceToNat, okD_int, okD_bl, okD_lst, okD_tup, okD_non, okL_nil, okL_cons, okD_str, okL_int, eqD_int, eqD_bl, eqD_str, eqD_tup, eqD_lst, eqL_cons, eqL_nil, eqL_cn, eqL_nc, eqL_int, Bool.and_eq_true, Bool.or_eq_true, Bool.not_eq_true', Bool.and_false, Bool.false_and, Bool.or_false, Bool.false_or, Bool.or_true, Bool.true_or, Bool.and_true, Bool.true_and, Bool.and_self, wIsT2, wDct0, wLstOf, wRepF, wAsgH, DV.hN, hIx, hCons, hNil, hTup, wLM, gCnt, gIdx, gList, gSorted, wAppPop, wRaise0, wRaise1, wTry, wIsE, wAct, wFl, flD, okD_bl])
      unfold B__law_draw_12
      (try simp only [wSeq, wAsg, wOwn, wF, wLc, wSkip, wBrk, wCnt, wRet, wRetF, wRetN, wDrop, wIfS, wPar, wFor, wWh, wV, wApp, wExt, wSetIx, wAug, wVal, wLook, wC, wOp, wTst, wChain, wAnd, wOr, wNot, wAndV, wOrV, wNotV, wIf, wNil, wCons, wTup, wLst, wCall, wCB, wIsT, wiR1, wiR2, wiSq, wiEn, wiZip, gN, gT1, gT2, gT3, gT4, gT5, gT6, gT7, wYes, gAdd, DV.gSub, gMul, gMod, gDiv, gPow, gLt, gLe, gGt, gGe, gCmp, gEq, gNe, gIs, gIsN, DV.isNon, gIn, gNotIn, gIx, gSlc, wSlc, wNoP, wPart, gLen, gAbs, gInt, gMin2, gMax2, gAll, gAny, gSum, gTuple, wNeg, wRev, itemsOf, D.isTy, D.isHand, Sl.toD, big_0, big_1, big_2, big_3, big_4, big_5, big_6, big_7, big_8, big_9, big_10, big_11, big_12, draw_iff, own_ex, val_ex, wipeE, restE, Sl.keep, Option.getD_some, get_z, get_s, set_z, set_s, List.length_cons, List.length_nil, atI_0, atI_1, atI_2, atI_3, atI_4, ixN_5_0, ixN_5_1, ixN_5_2, ixN_5_3, ixN_5_4, D.bl.injEq, D.int.injEq, D.lst.injEq, D.tup.injEq, D.str.injEq, Sl.own.injEq, Sl.val.injEq, Option.some.injEq, exists_eq_left', exists_eq_left, exists_eq', exists_eq, or_true, true_or, or_false, false_or, CMul, CPow, natAbs_10, natAbs_2, Int.cast_ofNat_Int, Nat.reducePow, exists_and_left, exists_const, and_assoc, true_and, and_true, and_self, false_and, and_false, if_true, if_false, ite_true, ite_false, reduceCtorEq, decide_true, decide_false, decide_eq_true_eq, decide_eq_false_iff_not, Bool.not_true, Bool.not_false, Bool.false_eq_true, List.replicate_zero, List.replicate_succ, List.map_cons, List.map_nil, List.nil_append, List.cons_append, Nat.reduceSub, Nat.reduceAdd, Nat.reduceLeDiff, Nat.reduceLT, Int.reduceLT, Int.reduceLE, Int.reduceAdd, Int.reduceSub, Int.reduceMul, Int.reduceNeg, Int.reduceMod, Int.reduceDiv, Int.reducePow, Int.reduceToNat, okD_int, okD_bl, okD_lst, okD_tup, okD_non, okL_nil, okL_cons, okD_str, okL_int, eqD_int, eqD_bl, eqD_str, eqD_tup, eqD_lst, eqL_cons, eqL_nil, eqL_cn, eqL_nc, eqL_int, Bool.and_eq_true, Bool.or_eq_true, Bool.not_eq_true', Bool.and_false, Bool.false_and, Bool.or_false, Bool.false_or, Bool.or_true, Bool.true_or, Bool.and_true, Bool.true_and, Bool.and_self, wIsT2, wDct0, wLstOf, wRepF, wAsgH, DV.hN, hIx, hCons, hNil, hTup, wLM, gCnt, gIdx, gList, gSorted, wAppPop, wRaise0, wRaise1, wTry, wIsE, wAct, wFl, flD, okD_bl])
      have k1 : 0 ≤ (st + 7919 * (cnt + 1)) * 48271 % 2147483647 := Int.emod_nonneg _ (by decide)
      have k2 : (st + 7919 * (cnt + 1)) * 48271 % 2147483647 < 2147483647 := Int.emod_lt_of_pos _ (by decide)
      unfold B__law_draw_13
      (try simp only [wSeq, wAsg, wOwn, wF, wLc, wSkip, wBrk, wCnt, wRet, wRetF, wRetN, wDrop, wIfS, wPar, wFor, wWh, wV, wApp, wExt, wSetIx, wAug, wVal, wLook, wC, wOp, wTst, wChain, wAnd, wOr, wNot, wAndV, wOrV, wNotV, wIf, wNil, wCons, wTup, wLst, wCall, wCB, wIsT, wiR1, wiR2, wiSq, wiEn, wiZip, gN, gT1, gT2, gT3, gT4, gT5, gT6, gT7, wYes, gAdd, DV.gSub, gMul, gMod, gDiv, gPow, gLt, gLe, gGt, gGe, gCmp, gEq, gNe, gIs, gIsN, DV.isNon, gIn, gNotIn, gIx, gSlc, wSlc, wNoP, wPart, gLen, gAbs, gInt, gMin2, gMax2, gAll, gAny, gSum, gTuple, wNeg, wRev, itemsOf, D.isTy, D.isHand, Sl.toD, big_0, big_1, big_2, big_3, big_4, big_5, big_6, big_7, big_8, big_9, big_10, big_11, big_12, draw_iff, own_ex, val_ex, wipeE, restE, Sl.keep, Option.getD_some, get_z, get_s, set_z, set_s, List.length_cons, List.length_nil, atI_0, atI_1, atI_2, atI_3, atI_4, ixN_5_0, ixN_5_1, ixN_5_2, ixN_5_3, ixN_5_4, D.bl.injEq, D.int.injEq, D.lst.injEq, D.tup.injEq, D.str.injEq, Sl.own.injEq, Sl.val.injEq, Option.some.injEq, exists_eq_left', exists_eq_left, exists_eq', exists_eq, or_true, true_or, or_false, false_or, CMul, CPow, natAbs_10, natAbs_2, Int.cast_ofNat_Int, Nat.reducePow, exists_and_left, exists_const, and_assoc, true_and, and_true, and_self, false_and, and_false, if_true, if_false, ite_true, ite_false, reduceCtorEq, decide_true, decide_false, decide_eq_true_eq, decide_eq_false_iff_not, Bool.not_true, Bool.not_false, Bool.false_eq_true, List.replicate_zero, List.replicate_succ, List.map_cons, List.map_nil, List.nil_append, List.cons_append, Nat.reduceSub, Nat.reduceAdd, Nat.reduceLeDiff, Nat.reduceLT, Int.reduceLT, Int.reduceLE, Int.reduceAdd, Int.reduceSub, Int.reduceMul, Int.reduceNeg, Int.reduceMod, Int.reduceDiv, Int.reducePow, Int.reduceToNat, okD_int, okD_bl, okD_lst, okD_tup, okD_non, okL_nil, okL_cons, okD_str, okL_int, eqD_int, eqD_bl, eqD_str, eqD_tup, eqD_lst, eqL_cons, eqL_nil, eqL_cn, eqL_nc, eqL_int, Bool.and_eq_true, Bool.or_eq_true, Bool.not_eq_true', Bool.and_false, Bool.false_and, Bool.or_false, Bool.false_or, Bool.or_true, Bool.true_or, Bool.and_true, Bool.true_and, Bool.and_self, wIsT2, wDct0, wLstOf, wRepF, wAsgH, DV.hN, hIx, hCons, hNil, hTup, wLM, gCnt, gIdx, gList, gSorted, wAppPop, wRaise0, wRaise1, wTry, wIsE, wAct, wFl, flD, okD_bl])
      refine ⟨.inl ⟨by omega, by omega⟩, ?_⟩
      generalize (st + 7919 * (cnt + 1)) * 48271 % 2147483647 = a at *
      have k3 : 0 ≤ a * (a / 1009 + 69621) % 2147483647 := Int.emod_nonneg _ (by decide)
      have k4 : a * (a / 1009 + 69621) % 2147483647 < 2147483647 := Int.emod_lt_of_pos _ (by decide)
      unfold B__law_draw_14
      (try simp only [wSeq, wAsg, wOwn, wF, wLc, wSkip, wBrk, wCnt, wRet, wRetF, wRetN, wDrop, wIfS, wPar, wFor, wWh, wV, wApp, wExt, wSetIx, wAug, wVal, wLook, wC, wOp, wTst, wChain, wAnd, wOr, wNot, wAndV, wOrV, wNotV, wIf, wNil, wCons, wTup, wLst, wCall, wCB, wIsT, wiR1, wiR2, wiSq, wiEn, wiZip, gN, gT1, gT2, gT3, gT4, gT5, gT6, gT7, wYes, gAdd, DV.gSub, gMul, gMod, gDiv, gPow, gLt, gLe, gGt, gGe, gCmp, gEq, gNe, gIs, gIsN, DV.isNon, gIn, gNotIn, gIx, gSlc, wSlc, wNoP, wPart, gLen, gAbs, gInt, gMin2, gMax2, gAll, gAny, gSum, gTuple, wNeg, wRev, itemsOf, D.isTy, D.isHand, Sl.toD, big_0, big_1, big_2, big_3, big_4, big_5, big_6, big_7, big_8, big_9, big_10, big_11, big_12, draw_iff, own_ex, val_ex, wipeE, restE, Sl.keep, Option.getD_some, get_z, get_s, set_z, set_s, List.length_cons, List.length_nil, atI_0, atI_1, atI_2, atI_3, atI_4, ixN_5_0, ixN_5_1, ixN_5_2, ixN_5_3, ixN_5_4, D.bl.injEq, D.int.injEq, D.lst.injEq, D.tup.injEq, D.str.injEq, Sl.own.injEq, Sl.val.injEq, Option.some.injEq, exists_eq_left', exists_eq_left, exists_eq', exists_eq, or_true, true_or, or_false, false_or, CMul, CPow, natAbs_10, natAbs_2, Int.cast_ofNat_Int, Nat.reducePow, exists_and_left, exists_const, and_assoc, true_and, and_true, and_self, false_and, and_false, if_true, if_false, ite_true, ite_false, reduceCtorEq, decide_true, decide_false, decide_eq_true_eq, decide_eq_false_iff_not, Bool.not_true, Bool.not_false, Bool.false_eq_true, List.replicate_zero, List.replicate_succ, List.map_cons, List.map_nil, List.nil_append, List.cons_append, Nat.reduceSub, Nat.reduceAdd, Nat.reduceLeDiff, Nat.reduceLT, Int.reduceLT, Int.reduceLE, Int.reduceAdd, Int.reduceSub, Int.reduceMul, Int.reduceNeg, Int.reduceMod, Int.reduceDiv, Int.reducePow, Int.reduceToNat, okD_int, okD_bl, okD_lst, okD_tup, okD_non, okL_nil, okL_cons, okD_str, okL_int, eqD_int, eqD_bl, eqD_str, eqD_tup, eqD_lst, eqL_cons, eqL_nil, eqL_cn, eqL_nc, eqL_int, Bool.and_eq_true, Bool.or_eq_true, Bool.not_eq_true', Bool.and_false, Bool.false_and, Bool.or_false, Bool.false_or, Bool.or_true, Bool.true_or, Bool.and_true, Bool.true_and, Bool.and_self, wIsT2, wDct0, wLstOf, wRepF, wAsgH, DV.hN, hIx, hCons, hNil, hTup, wLM, gCnt, gIdx, gList, gSorted, wAppPop, wRaise0, wRaise1, wTry, wIsE, wAct, wFl, flD, okD_bl])
      refine ⟨.inl ⟨by omega, by omega⟩, ?_⟩
      generalize a * (a / 1009 + 69621) % 2147483647 = b at *
      unfold B__law_draw_15
      (try simp only [wSeq, wAsg, wOwn, wF, wLc, wSkip, wBrk, wCnt, wRet, wRetF, wRetN, wDrop, wIfS, wPar, wFor, wWh, wV, wApp, wExt, wSetIx, wAug, wVal, wLook, wC, wOp, wTst, wChain, wAnd, wOr, wNot, wAndV, wOrV, wNotV, wIf, wNil, wCons, wTup, wLst, wCall, wCB, wIsT, wiR1, wiR2, wiSq, wiEn, wiZip, gN, gT1, gT2, gT3, gT4, gT5, gT6, gT7, wYes, gAdd, DV.gSub, gMul, gMod, gDiv, gPow, gLt, gLe, gGt, gGe, gCmp, gEq, gNe, gIs, gIsN, DV.isNon, gIn, gNotIn, gIx, gSlc, wSlc, wNoP, wPart, gLen, gAbs, gInt, gMin2, gMax2, gAll, gAny, gSum, gTuple, wNeg, wRev, itemsOf, D.isTy, D.isHand, Sl.toD, big_0, big_1, big_2, big_3, big_4, big_5, big_6, big_7, big_8, big_9, big_10, big_11, big_12, draw_iff, own_ex, val_ex, wipeE, restE, Sl.keep, Option.getD_some, get_z, get_s, set_z, set_s, List.length_cons, List.length_nil, atI_0, atI_1, atI_2, atI_3, atI_4, ixN_5_0, ixN_5_1, ixN_5_2, ixN_5_3, ixN_5_4, D.bl.injEq, D.int.injEq, D.lst.injEq, D.tup.injEq, D.str.injEq, Sl.own.injEq, Sl.val.injEq, Option.some.injEq, exists_eq_left', exists_eq_left, exists_eq', exists_eq, or_true, true_or, or_false, false_or, CMul, CPow, natAbs_10, natAbs_2, Int.cast_ofNat_Int, Nat.reducePow, exists_and_left, exists_const, and_assoc, true_and, and_true, and_self, false_and, and_false, if_true, if_false, ite_true, ite_false, reduceCtorEq, decide_true, decide_false, decide_eq_true_eq, decide_eq_false_iff_not, Bool.not_true, Bool.not_false, Bool.false_eq_true, List.replicate_zero, List.replicate_succ, List.map_cons, List.map_nil, List.nil_append, List.cons_append, Nat.reduceSub, Nat.reduceAdd, Nat.reduceLeDiff, Nat.reduceLT, Int.reduceLT, Int.reduceLE, Int.reduceAdd, Int.reduceSub, Int.reduceMul, Int.reduceNeg, Int.reduceMod, Int.reduceDiv, Int.reducePow, Int.reduceToNat, okD_int, okD_bl, okD_lst, okD_tup, okD_non, okL_nil, okL_cons, okD_str, okL_int, eqD_int, eqD_bl, eqD_str, eqD_tup, eqD_lst, eqL_cons, eqL_nil, eqL_cn, eqL_nc, eqL_int, Bool.and_eq_true, Bool.or_eq_true, Bool.not_eq_true', Bool.and_false, Bool.false_and, Bool.or_false, Bool.false_or, Bool.or_true, Bool.true_or, Bool.and_true, Bool.true_and, Bool.and_self, wIsT2, wDct0, wLstOf, wRepF, wAsgH, DV.hN, hIx, hCons, hNil, hTup, wLM, gCnt, gIdx, gList, gSorted, wAppPop, wRaise0, wRaise1, wTry, wIsE, wAct, wFl, flD, okD_bl])
      refine ⟨hm, ?_⟩
      exact hq _ p _ st _ _ (Int.emod_nonneg _ (by omega)) (Int.emod_lt_of_pos _ hm) hb hs (by omega) hs2
  unfold B__law_draw handL
  (try simp only [wSeq, wAsg, wOwn, wF, wLc, wSkip, wBrk, wCnt, wRet, wRetF, wRetN, wDrop, wIfS, wPar, wFor, wWh, wV, wApp, wExt, wSetIx, wAug, wVal, wLook, wC, wOp, wTst, wChain, wAnd, wOr, wNot, wAndV, wOrV, wNotV, wIf, wNil, wCons, wTup, wLst, wCall, wCB, wIsT, wiR1, wiR2, wiSq, wiEn, wiZip, gN, gT1, gT2, gT3, gT4, gT5, gT6, gT7, wYes, gAdd, DV.gSub, gMul, gMod, gDiv, gPow, gLt, gLe, gGt, gGe, gCmp, gEq, gNe, gIs, gIsN, DV.isNon, gIn, gNotIn, gIx, gSlc, wSlc, wNoP, wPart, gLen, gAbs, gInt, gMin2, gMax2, gAll, gAny, gSum, gTuple, wNeg, wRev, itemsOf, D.isTy, D.isHand, Sl.toD, big_0, big_1, big_2, big_3, big_4, big_5, big_6, big_7, big_8, big_9, big_10, big_11, big_12, draw_iff, own_ex, val_ex, wipeE, restE, Sl.keep, Option.getD_some, get_z, get_s, set_z, set_s, List.length_cons, List.length_nil, atI_0, atI_1, atI_2, atI_3, atI_4, ixN_5_0, ixN_5_1, ixN_5_2, ixN_5_3, ixN_5_4, D.bl.injEq, D.int.injEq, D.lst.injEq, D.tup.injEq, D.str.injEq, Sl.own.injEq, Sl.val.injEq, Option.some.injEq, exists_eq_left', exists_eq_left, exists_eq', exists_eq, or_true, true_or, or_false, false_or, CMul, CPow, natAbs_10, natAbs_2, Int.cast_ofNat_Int, Nat.reducePow, exists_and_left, exists_const, and_assoc, true_and, and_true, and_self, false_and, and_false, if_true, if_false, ite_true, ite_false, reduceCtorEq, decide_true, decide_false, decide_eq_true_eq, decide_eq_false_iff_not, Bool.not_true, Bool.not_false, Bool.false_eq_true, List.replicate_zero, List.replicate_succ, List.map_cons, List.map_nil, List.nil_append, List.cons_append, Nat.reduceSub, Nat.reduceAdd, Nat.reduceLeDiff, Nat.reduceLT, Int.reduceLT, Int.reduceLE, Int.reduceAdd, Int.reduceSub, Int.reduceMul, Int.reduceNeg, Int.reduceMod, Int.reduceDiv, Int.reducePow, Int.reduceToNat, okD_int, okD_bl, okD_lst, okD_tup, okD_non, okL_nil, okL_cons, okD_str, okL_int, eqD_int, eqD_bl, eqD_str, eqD_tup, eqD_lst, eqL_cons, eqL_nil, eqL_cn, eqL_nc, eqL_int, Bool.and_eq_true, Bool.or_eq_true, Bool.not_eq_true', Bool.and_false, Bool.false_and, Bool.or_false, Bool.false_or, Bool.or_true, Bool.true_or, Bool.and_true, Bool.true_and, Bool.and_self, wIsT2, wDct0, wLstOf, wRepF, wAsgH, DV.hN, hIx, hCons, hNil, hTup, wLM, gCnt, gIdx, gList, gSorted, wAppPop, wRaise0, wRaise1, wTry, wIsE, wAct, wFl, flD, okD_bl])
  split
  · rename_i hbz
    have hz : bg = 0 := by simpa [eqD_int] using hbz
    subst hz
    split
    · rename_i hp
      have hp2 : p < cells.length := by simpa using hp
      unfold B__law_draw_2
      have e1 : atI (List.map D.int cells) (p : Int) = some (.int cells[p]) := by
        rw [atI_nat rfl, List.getElem?_map, List.getElem?_eq_getElem hp2]; rfl
      have hcp := hc _ (List.getElem_mem hp2)
      generalize cells[p] = c at *
      simp only [wSeq, wAsg, wOwn, wF, wLc, wSkip, wBrk, wCnt, wRet, wRetF, wRetN, wDrop, wIfS, wPar, wFor, wWh, wV, wApp, wExt, wSetIx, wAug, wVal, wLook, wC, wOp, wTst, wChain, wAnd, wOr, wNot, wAndV, wOrV, wNotV, wIf, wNil, wCons, wTup, wLst, wCall, wCB, wIsT, wiR1, wiR2, wiSq, wiEn, wiZip, gN, gT1, gT2, gT3, gT4, gT5, gT6, gT7, wYes, gAdd, DV.gSub, gMul, gMod, gDiv, gPow, gLt, gLe, gGt, gGe, gCmp, gEq, gNe, gIs, gIsN, DV.isNon, gIn, gNotIn, gIx, gSlc, wSlc, wNoP, wPart, gLen, gAbs, gInt, gMin2, gMax2, gAll, gAny, gSum, gTuple, wNeg, wRev, itemsOf, D.isTy, D.isHand, Sl.toD, big_0, big_1, big_2, big_3, big_4, big_5, big_6, big_7, big_8, big_9, big_10, big_11, big_12, draw_iff, own_ex, val_ex, wipeE, restE, Sl.keep, Option.getD_some, get_z, get_s, set_z, set_s, List.length_cons, List.length_nil, atI_0, atI_1, atI_2, atI_3, atI_4, ixN_5_0, ixN_5_1, ixN_5_2, ixN_5_3, ixN_5_4, D.bl.injEq, D.int.injEq, D.lst.injEq, D.tup.injEq, D.str.injEq, Sl.own.injEq, Sl.val.injEq, Option.some.injEq, exists_eq_left', exists_eq_left, exists_eq', exists_eq, or_true, true_or, or_false, false_or, CMul, CPow, natAbs_10, natAbs_2, Int.cast_ofNat_Int, Nat.reducePow, exists_and_left, exists_const, and_assoc, true_and, and_true, and_self, false_and, and_false, if_true, if_false, ite_true, ite_false, reduceCtorEq, decide_true, decide_false, decide_eq_true_eq, decide_eq_false_iff_not, Bool.not_true, Bool.not_false, Bool.false_eq_true, List.replicate_zero, List.replicate_succ, List.map_cons, List.map_nil, List.nil_append, List.cons_append, Nat.reduceSub, Nat.reduceAdd, Nat.reduceLeDiff, Nat.reduceLT, Int.reduceLT, Int.reduceLE, Int.reduceAdd, Int.reduceSub, Int.reduceMul, Int.reduceNeg, Int.reduceMod, Int.reduceDiv, Int.reducePow, Int.reduceToNat, okD_int, okD_bl, okD_lst, okD_tup, okD_non, okL_nil, okL_cons, okD_str, okL_int, eqD_int, eqD_bl, eqD_str, eqD_tup, eqD_lst, eqL_cons, eqL_nil, eqL_cn, eqL_nc, eqL_int, Bool.and_eq_true, Bool.or_eq_true, Bool.not_eq_true', Bool.and_false, Bool.false_and, Bool.or_false, Bool.false_or, Bool.or_true, Bool.true_or, Bool.and_true, Bool.true_and, Bool.and_self, wIsT2, wDct0, wLstOf, wRepF, wAsgH, DV.hN, hIx, hCons, hNil, hTup, wLM, gCnt, gIdx, gList, gSorted, wAppPop, wRaise0, wRaise1, wTry, wIsE, wAct, wFl, flD, okD_bl, e1]
      unfold B__law_draw_3
      (try simp only [wSeq, wAsg, wOwn, wF, wLc, wSkip, wBrk, wCnt, wRet, wRetF, wRetN, wDrop, wIfS, wPar, wFor, wWh, wV, wApp, wExt, wSetIx, wAug, wVal, wLook, wC, wOp, wTst, wChain, wAnd, wOr, wNot, wAndV, wOrV, wNotV, wIf, wNil, wCons, wTup, wLst, wCall, wCB, wIsT, wiR1, wiR2, wiSq, wiEn, wiZip, gN, gT1, gT2, gT3, gT4, gT5, gT6, gT7, wYes, gAdd, DV.gSub, gMul, gMod, gDiv, gPow, gLt, gLe, gGt, gGe, gCmp, gEq, gNe, gIs, gIsN, DV.isNon, gIn, gNotIn, gIx, gSlc, wSlc, wNoP, wPart, gLen, gAbs, gInt, gMin2, gMax2, gAll, gAny, gSum, gTuple, wNeg, wRev, itemsOf, D.isTy, D.isHand, Sl.toD, big_0, big_1, big_2, big_3, big_4, big_5, big_6, big_7, big_8, big_9, big_10, big_11, big_12, draw_iff, own_ex, val_ex, wipeE, restE, Sl.keep, Option.getD_some, get_z, get_s, set_z, set_s, List.length_cons, List.length_nil, atI_0, atI_1, atI_2, atI_3, atI_4, ixN_5_0, ixN_5_1, ixN_5_2, ixN_5_3, ixN_5_4, D.bl.injEq, D.int.injEq, D.lst.injEq, D.tup.injEq, D.str.injEq, Sl.own.injEq, Sl.val.injEq, Option.some.injEq, exists_eq_left', exists_eq_left, exists_eq', exists_eq, or_true, true_or, or_false, false_or, CMul, CPow, natAbs_10, natAbs_2, Int.cast_ofNat_Int, Nat.reducePow, exists_and_left, exists_const, and_assoc, true_and, and_true, and_self, false_and, and_false, if_true, if_false, ite_true, ite_false, reduceCtorEq, decide_true, decide_false, decide_eq_true_eq, decide_eq_false_iff_not, Bool.not_true, Bool.not_false, Bool.false_eq_true, List.replicate_zero, List.replicate_succ, List.map_cons, List.map_nil, List.nil_append, List.cons_append, Nat.reduceSub, Nat.reduceAdd, Nat.reduceLeDiff, Nat.reduceLT, Int.reduceLT, Int.reduceLE, Int.reduceAdd, Int.reduceSub, Int.reduceMul, Int.reduceNeg, Int.reduceMod, Int.reduceDiv, Int.reducePow, Int.reduceToNat, okD_int, okD_bl, okD_lst, okD_tup, okD_non, okL_nil, okL_cons, okD_str, okL_int, eqD_int, eqD_bl, eqD_str, eqD_tup, eqD_lst, eqL_cons, eqL_nil, eqL_cn, eqL_nc, eqL_int, Bool.and_eq_true, Bool.or_eq_true, Bool.not_eq_true', Bool.and_false, Bool.false_and, Bool.or_false, Bool.false_or, Bool.or_true, Bool.true_or, Bool.and_true, Bool.true_and, Bool.and_self, wIsT2, wDct0, wLstOf, wRepF, wAsgH, DV.hN, hIx, hCons, hNil, hTup, wLM, gCnt, gIdx, gList, gSorted, wAppPop, wRaise0, wRaise1, wTry, wIsE, wAct, wFl, flD, okD_bl])
      unfold B__law_draw_4
      (try simp only [wSeq, wAsg, wOwn, wF, wLc, wSkip, wBrk, wCnt, wRet, wRetF, wRetN, wDrop, wIfS, wPar, wFor, wWh, wV, wApp, wExt, wSetIx, wAug, wVal, wLook, wC, wOp, wTst, wChain, wAnd, wOr, wNot, wAndV, wOrV, wNotV, wIf, wNil, wCons, wTup, wLst, wCall, wCB, wIsT, wiR1, wiR2, wiSq, wiEn, wiZip, gN, gT1, gT2, gT3, gT4, gT5, gT6, gT7, wYes, gAdd, DV.gSub, gMul, gMod, gDiv, gPow, gLt, gLe, gGt, gGe, gCmp, gEq, gNe, gIs, gIsN, DV.isNon, gIn, gNotIn, gIx, gSlc, wSlc, wNoP, wPart, gLen, gAbs, gInt, gMin2, gMax2, gAll, gAny, gSum, gTuple, wNeg, wRev, itemsOf, D.isTy, D.isHand, Sl.toD, big_0, big_1, big_2, big_3, big_4, big_5, big_6, big_7, big_8, big_9, big_10, big_11, big_12, draw_iff, own_ex, val_ex, wipeE, restE, Sl.keep, Option.getD_some, get_z, get_s, set_z, set_s, List.length_cons, List.length_nil, atI_0, atI_1, atI_2, atI_3, atI_4, ixN_5_0, ixN_5_1, ixN_5_2, ixN_5_3, ixN_5_4, D.bl.injEq, D.int.injEq, D.lst.injEq, D.tup.injEq, D.str.injEq, Sl.own.injEq, Sl.val.injEq, Option.some.injEq, exists_eq_left', exists_eq_left, exists_eq', exists_eq, or_true, true_or, or_false, false_or, CMul, CPow, natAbs_10, natAbs_2, Int.cast_ofNat_Int, Nat.reducePow, exists_and_left, exists_const, and_assoc, true_and, and_true, and_self, false_and, and_false, if_true, if_false, ite_true, ite_false, reduceCtorEq, decide_true, decide_false, decide_eq_true_eq, decide_eq_false_iff_not, Bool.not_true, Bool.not_false, Bool.false_eq_true, List.replicate_zero, List.replicate_succ, List.map_cons, List.map_nil, List.nil_append, List.cons_append, Nat.reduceSub, Nat.reduceAdd, Nat.reduceLeDiff, Nat.reduceLT, Int.reduceLT, Int.reduceLE, Int.reduceAdd, Int.reduceSub, Int.reduceMul, Int.reduceNeg, Int.reduceMod, Int.reduceDiv, Int.reducePow, Int.reduceToNat, okD_int, okD_bl, okD_lst, okD_tup, okD_non, okL_nil, okL_cons, okD_str, okL_int, eqD_int, eqD_bl, eqD_str, eqD_tup, eqD_lst, eqL_cons, eqL_nil, eqL_cn, eqL_nc, eqL_int, Bool.and_eq_true, Bool.or_eq_true, Bool.not_eq_true', Bool.and_false, Bool.false_and, Bool.or_false, Bool.false_or, Bool.or_true, Bool.true_or, Bool.and_true, Bool.true_and, Bool.and_self, wIsT2, wDct0, wLstOf, wRepF, wAsgH, DV.hN, hIx, hCons, hNil, hTup, wLM, gCnt, gIdx, gList, gSorted, wAppPop, wRaise0, wRaise1, wTry, wIsE, wAct, wFl, flD, okD_bl])
      have k1 : 0 ≤ (st * 69621 + c + 41) % 2147483629 := Int.emod_nonneg _ (by decide)
      have k2 : (st * 69621 + c + 41) % 2147483629 < 2147483629 := Int.emod_lt_of_pos _ (by decide)
      unfold B__law_draw_5
      (try simp only [wSeq, wAsg, wOwn, wF, wLc, wSkip, wBrk, wCnt, wRet, wRetF, wRetN, wDrop, wIfS, wPar, wFor, wWh, wV, wApp, wExt, wSetIx, wAug, wVal, wLook, wC, wOp, wTst, wChain, wAnd, wOr, wNot, wAndV, wOrV, wNotV, wIf, wNil, wCons, wTup, wLst, wCall, wCB, wIsT, wiR1, wiR2, wiSq, wiEn, wiZip, gN, gT1, gT2, gT3, gT4, gT5, gT6, gT7, wYes, gAdd, DV.gSub, gMul, gMod, gDiv, gPow, gLt, gLe, gGt, gGe, gCmp, gEq, gNe, gIs, gIsN, DV.isNon, gIn, gNotIn, gIx, gSlc, wSlc, wNoP, wPart, gLen, gAbs, gInt, gMin2, gMax2, gAll, gAny, gSum, gTuple, wNeg, wRev, itemsOf, D.isTy, D.isHand, Sl.toD, big_0, big_1, big_2, big_3, big_4, big_5, big_6, big_7, big_8, big_9, big_10, big_11, big_12, draw_iff, own_ex, val_ex, wipeE, restE, Sl.keep, Option.getD_some, get_z, get_s, set_z, set_s, List.length_cons, List.length_nil, atI_0, atI_1, atI_2, atI_3, atI_4, ixN_5_0, ixN_5_1, ixN_5_2, ixN_5_3, ixN_5_4, D.bl.injEq, D.int.injEq, D.lst.injEq, D.tup.injEq, D.str.injEq, Sl.own.injEq, Sl.val.injEq, Option.some.injEq, exists_eq_left', exists_eq_left, exists_eq', exists_eq, or_true, true_or, or_false, false_or, CMul, CPow, natAbs_10, natAbs_2, Int.cast_ofNat_Int, Nat.reducePow, exists_and_left, exists_const, and_assoc, true_and, and_true, and_self, false_and, and_false, if_true, if_false, ite_true, ite_false, reduceCtorEq, decide_true, decide_false, decide_eq_true_eq, decide_eq_false_iff_not, Bool.not_true, Bool.not_false, Bool.false_eq_true, List.replicate_zero, List.replicate_succ, List.map_cons, List.map_nil, List.nil_append, List.cons_append, Nat.reduceSub, Nat.reduceAdd, Nat.reduceLeDiff, Nat.reduceLT, Int.reduceLT, Int.reduceLE, Int.reduceAdd, Int.reduceSub, Int.reduceMul, Int.reduceNeg, Int.reduceMod, Int.reduceDiv, Int.reducePow, Int.reduceToNat, okD_int, okD_bl, okD_lst, okD_tup, okD_non, okL_nil, okL_cons, okD_str, okL_int, eqD_int, eqD_bl, eqD_str, eqD_tup, eqD_lst, eqL_cons, eqL_nil, eqL_cn, eqL_nc, eqL_int, Bool.and_eq_true, Bool.or_eq_true, Bool.not_eq_true', Bool.and_false, Bool.false_and, Bool.or_false, Bool.false_or, Bool.or_true, Bool.true_or, Bool.and_true, Bool.true_and, Bool.and_self, wIsT2, wDct0, wLstOf, wRepF, wAsgH, DV.hN, hIx, hCons, hNil, hTup, wLM, gCnt, gIdx, gList, gSorted, wAppPop, wRaise0, wRaise1, wTry, wIsE, wAct, wFl, flD, okD_bl])
      split
      · exact last (p + 1) c _ cnt _ _ (by omega) k1 hn (by omega) _
      · exact last (p + 1) 0 _ cnt _ _ (by omega) k1 hn (by omega) _
    · exact last p 0 st cnt _ _ (by omega) hs hn hs2 _
  · exact last p bg st cnt _ _ hb hs hn hs2 _

section
variable {Q : D → Prop} {E : Er → Prop}
/-- an int that is no bool -/
def _root_.DV.D.isI : D → Bool
  | .int _ => true
  | _ => false
/-- x a number from lo to hi -/
def within : D → Int → Int → Bool
  | .int i, lo, hi => decide (lo ≤ i) && decide (i ≤ hi)
  | _, _, _ => false
theorem sp_is_integer {x : D} (h : x.isHand = false) : T_is_integer [x] Q E ↔ Q (.bl x.isI) := by
  unfold T_is_integer wFn B_is_integer
  cases x <;> first | (cases h; done) | simp only [wSeq, wAsg, wOwn, wF, wLc, wSkip, wBrk, wCnt, wRet, wRetF, wRetN, wDrop, wIfS, wPar, wFor, wWh, wV, wApp, wExt, wSetIx, wAug, wVal, wLook, wC, wOp, wTst, wChain, wAnd, wOr, wNot, wAndV, wOrV, wNotV, wIf, wNil, wCons, wTup, wLst, wCall, wCB, wIsT, wiR1, wiR2, wiSq, wiEn, wiZip, gN, gT1, gT2, gT3, gT4, gT5, gT6, gT7, wYes, gAdd, DV.gSub, gMul, gMod, gDiv, gPow, gLt, gLe, gGt, gGe, gCmp, gEq, gNe, gIs, gIsN, DV.isNon, gIn, gNotIn, gIx, gSlc, wSlc, wNoP, wPart, gLen, gAbs, gInt, gMin2, gMax2, gAll, gAny, gSum, gTuple, wNeg, wRev, itemsOf, D.isTy, D.isHand, Sl.toD, big_0, big_1, big_2, big_3, big_4, big_5, big_6, big_7, big_8, big_9, big_10, big_11, big_12, draw_iff, own_ex, val_ex, wipeE, restE, Sl.keep, Option.getD_some, get_z, get_s, set_z, set_s, List.length_cons, List.length_nil, atI_0, atI_1, atI_2, atI_3, atI_4, ixN_5_0, ixN_5_1, ixN_5_2, ixN_5_3, ixN_5_4, D.bl.injEq, D.int.injEq, D.lst.injEq, D.tup.injEq, D.str.injEq, Sl.own.injEq, Sl.val.injEq, Option.some.injEq, exists_eq_left', exists_eq_left, exists_eq', exists_eq, or_true, true_or, or_false, false_or, CMul, CPow, natAbs_10, natAbs_2, Int.cast_ofNat_Int, Nat.reducePow, exists_and_left, exists_const, and_assoc, true_and, and_true, and_self, false_and, and_false, if_true, if_false, ite_true, ite_false, reduceCtorEq, decide_true, decide_false, decide_eq_true_eq, decide_eq_false_iff_not, Bool.not_true, Bool.not_false, Bool.false_eq_true, List.replicate_zero, List.replicate_succ, List.map_cons, List.map_nil, List.nil_append, List.cons_append, Nat.reduceSub, Nat.reduceAdd, Nat.reduceLeDiff, Nat.reduceLT, Int.reduceLT, Int.reduceLE, Int.reduceAdd, Int.reduceSub, Int.reduceMul, Int.reduceNeg, Int.reduceMod, Int.reduceDiv, Int.reducePow, Int.reduceToNat, okD_int, okD_bl, okD_lst, okD_tup, okD_non, okL_nil, okL_cons, okD_str, okL_int, eqD_int, eqD_bl, eqD_str, eqD_tup, eqD_lst, eqL_cons, eqL_nil, eqL_cn, eqL_nc, eqL_int, Bool.and_eq_true, Bool.or_eq_true, Bool.not_eq_true', Bool.and_false, Bool.false_and, Bool.or_false, Bool.false_or, Bool.or_true, Bool.true_or, Bool.and_true, Bool.true_and, Bool.and_self, wIsT2, wDct0, wLstOf, wRepF, wAsgH, DV.hN, hIx, hCons, hNil, hTup, wLM, gCnt, gIdx, gList, gSorted, wAppPop, wRaise0, wRaise1, wTry, wIsE, wAct, wFl, flD, okD_bl, D.isI]
theorem sp_is_within {x : D} {lo hi : Int} (h : x.isHand = false) : T_is_within [x, .int lo, .int hi] Q E ↔ Q (.bl (within x lo hi)) := by
  unfold T_is_within wFn B_is_within
  simp only [wSeq, wAsg, wOwn, wF, wLc, wSkip, wBrk, wCnt, wRet, wRetF, wRetN, wDrop, wIfS, wPar, wFor, wWh, wV, wApp, wExt, wSetIx, wAug, wVal, wLook, wC, wOp, wTst, wChain, wAnd, wOr, wNot, wAndV, wOrV, wNotV, wIf, wNil, wCons, wTup, wLst, wCall, wCB, wIsT, wiR1, wiR2, wiSq, wiEn, wiZip, gN, gT1, gT2, gT3, gT4, gT5, gT6, gT7, wYes, gAdd, DV.gSub, gMul, gMod, gDiv, gPow, gLt, gLe, gGt, gGe, gCmp, gEq, gNe, gIs, gIsN, DV.isNon, gIn, gNotIn, gIx, gSlc, wSlc, wNoP, wPart, gLen, gAbs, gInt, gMin2, gMax2, gAll, gAny, gSum, gTuple, wNeg, wRev, itemsOf, D.isTy, D.isHand, Sl.toD, big_0, big_1, big_2, big_3, big_4, big_5, big_6, big_7, big_8, big_9, big_10, big_11, big_12, draw_iff, own_ex, val_ex, wipeE, restE, Sl.keep, Option.getD_some, get_z, get_s, set_z, set_s, List.length_cons, List.length_nil, atI_0, atI_1, atI_2, atI_3, atI_4, ixN_5_0, ixN_5_1, ixN_5_2, ixN_5_3, ixN_5_4, D.bl.injEq, D.int.injEq, D.lst.injEq, D.tup.injEq, D.str.injEq, Sl.own.injEq, Sl.val.injEq, Option.some.injEq, exists_eq_left', exists_eq_left, exists_eq', exists_eq, or_true, true_or, or_false, false_or, CMul, CPow, natAbs_10, natAbs_2, Int.cast_ofNat_Int, Nat.reducePow, exists_and_left, exists_const, and_assoc, true_and, and_true, and_self, false_and, and_false, if_true, if_false, ite_true, ite_false, reduceCtorEq, decide_true, decide_false, decide_eq_true_eq, decide_eq_false_iff_not, Bool.not_true, Bool.not_false, Bool.false_eq_true, List.replicate_zero, List.replicate_succ, List.map_cons, List.map_nil, List.nil_append, List.cons_append, Nat.reduceSub, Nat.reduceAdd, Nat.reduceLeDiff, Nat.reduceLT, Int.reduceLT, Int.reduceLE, Int.reduceAdd, Int.reduceSub, Int.reduceMul, Int.reduceNeg, Int.reduceMod, Int.reduceDiv, Int.reducePow, Int.reduceToNat, okD_int, okD_bl, okD_lst, okD_tup, okD_non, okL_nil, okL_cons, okD_str, okL_int, eqD_int, eqD_bl, eqD_str, eqD_tup, eqD_lst, eqL_cons, eqL_nil, eqL_cn, eqL_nc, eqL_int, Bool.and_eq_true, Bool.or_eq_true, Bool.not_eq_true', Bool.and_false, Bool.false_and, Bool.or_false, Bool.false_or, Bool.or_true, Bool.true_or, Bool.and_true, Bool.true_and, Bool.and_self, wIsT2, wDct0, wLstOf, wRepF, wAsgH, DV.hN, hIx, hCons, hNil, hTup, wLM, gCnt, gIdx, gList, gSorted, wAppPop, wRaise0, wRaise1, wTry, wIsE, wAct, wFl, flD, okD_bl, sp_is_integer h]
  cases x with
  | int i => 
    simp only [wSeq, wAsg, wOwn, wF, wLc, wSkip, wBrk, wCnt, wRet, wRetF, wRetN, wDrop, wIfS, wPar, wFor, wWh, wV, wApp, wExt, wSetIx, wAug, wVal, wLook, wC, wOp, wTst, wChain, wAnd, wOr, wNot, wAndV, wOrV, wNotV, wIf, wNil, wCons, wTup, wLst, wCall, wCB, wIsT, wiR1, wiR2, wiSq, wiEn, wiZip, gN, gT1, gT2, gT3, gT4, gT5, gT6, gT7, wYes, gAdd, DV.gSub, gMul, gMod, gDiv, gPow, gLt, gLe, gGt, gGe, gCmp, gEq, gNe, gIs, gIsN, DV.isNon, gIn, gNotIn, gIx, gSlc, wSlc, wNoP, wPart, gLen, gAbs, gInt, gMin2, gMax2, gAll, gAny, gSum, gTuple, wNeg, wRev, itemsOf, D.isTy, D.isHand, Sl.toD, big_0, big_1, big_2, big_3, big_4, big_5, big_6, big_7, big_8, big_9, big_10, big_11, big_12, draw_iff, own_ex, val_ex, wipeE, restE, Sl.keep, Option.getD_some, get_z, get_s, set_z, set_s, List.length_cons, List.length_nil, atI_0, atI_1, atI_2, atI_3, atI_4, ixN_5_0, ixN_5_1, ixN_5_2, ixN_5_3, ixN_5_4, D.bl.injEq, D.int.injEq, D.lst.injEq, D.tup.injEq, D.str.injEq, Sl.own.injEq, Sl.val.injEq, Option.some.injEq, exists_eq_left', exists_eq_left, exists_eq', exists_eq, or_true, true_or, or_false, false_or, CMul, CPow, natAbs_10, natAbs_2, Int.cast_ofNat_Int, Nat.reducePow, exists_and_left, exists_const, and_assoc, true_and, and_true, and_self, false_and, and_false, if_true, if_false, ite_true, ite_false, reduceCtorEq, decide_true, decide_false, decide_eq_true_eq, decide_eq_false_iff_not, Bool.not_true, Bool.not_false, Bool.false_eq_true, List.replicate_zero, List.replicate_succ, List.map_cons, List.map_nil, List.nil_append, List.cons_append, Nat.reduceSub, Nat.reduceAdd, Nat.reduceLeDiff, Nat.reduceLT, Int.reduceLT, Int.reduceLE, Int.reduceAdd, Int.reduceSub, Int.reduceMul, Int.reduceNeg, Int.reduceMod, Int.reduceDiv, Int.reducePow, Int.reduceToNat, okD_int, okD_bl, okD_lst, okD_tup, okD_non, okL_nil, okL_cons, okD_str, okL_int, eqD_int, eqD_bl, eqD_str, eqD_tup, eqD_lst, eqL_cons, eqL_nil, eqL_cn, eqL_nc, eqL_int, Bool.and_eq_true, Bool.or_eq_true, Bool.not_eq_true', Bool.and_false, Bool.false_and, Bool.or_false, Bool.false_or, Bool.or_true, Bool.true_or, Bool.and_true, Bool.true_and, Bool.and_self, wIsT2, wDct0, wLstOf, wRepF, wAsgH, DV.hN, hIx, hCons, hNil, hTup, wLM, gCnt, gIdx, gList, gSorted, wAppPop, wRaise0, wRaise1, wTry, wIsE, wAct, wFl, flD, okD_bl, within, D.isI]
    by_cases h : lo ≤ i <;> simp [h]
  | _ => simp only [wSeq, wAsg, wOwn, wF, wLc, wSkip, wBrk, wCnt, wRet, wRetF, wRetN, wDrop, wIfS, wPar, wFor, wWh, wV, wApp, wExt, wSetIx, wAug, wVal, wLook, wC, wOp, wTst, wChain, wAnd, wOr, wNot, wAndV, wOrV, wNotV, wIf, wNil, wCons, wTup, wLst, wCall, wCB, wIsT, wiR1, wiR2, wiSq, wiEn, wiZip, gN, gT1, gT2, gT3, gT4, gT5, gT6, gT7, wYes, gAdd, DV.gSub, gMul, gMod, gDiv, gPow, gLt, gLe, gGt, gGe, gCmp, gEq, gNe, gIs, gIsN, DV.isNon, gIn, gNotIn, gIx, gSlc, wSlc, wNoP, wPart, gLen, gAbs, gInt, gMin2, gMax2, gAll, gAny, gSum, gTuple, wNeg, wRev, itemsOf, D.isTy, D.isHand, Sl.toD, big_0, big_1, big_2, big_3, big_4, big_5, big_6, big_7, big_8, big_9, big_10, big_11, big_12, draw_iff, own_ex, val_ex, wipeE, restE, Sl.keep, Option.getD_some, get_z, get_s, set_z, set_s, List.length_cons, List.length_nil, atI_0, atI_1, atI_2, atI_3, atI_4, ixN_5_0, ixN_5_1, ixN_5_2, ixN_5_3, ixN_5_4, D.bl.injEq, D.int.injEq, D.lst.injEq, D.tup.injEq, D.str.injEq, Sl.own.injEq, Sl.val.injEq, Option.some.injEq, exists_eq_left', exists_eq_left, exists_eq', exists_eq, or_true, true_or, or_false, false_or, CMul, CPow, natAbs_10, natAbs_2, Int.cast_ofNat_Int, Nat.reducePow, exists_and_left, exists_const, and_assoc, true_and, and_true, and_self, false_and, and_false, if_true, if_false, ite_true, ite_false, reduceCtorEq, decide_true, decide_false, decide_eq_true_eq, decide_eq_false_iff_not, Bool.not_true, Bool.not_false, Bool.false_eq_true, List.replicate_zero, List.replicate_succ, List.map_cons, List.map_nil, List.nil_append, List.cons_append, Nat.reduceSub, Nat.reduceAdd, Nat.reduceLeDiff, Nat.reduceLT, Int.reduceLT, Int.reduceLE, Int.reduceAdd, Int.reduceSub, Int.reduceMul, Int.reduceNeg, Int.reduceMod, Int.reduceDiv, Int.reducePow, Int.reduceToNat, okD_int, okD_bl, okD_lst, okD_tup, okD_non, okL_nil, okL_cons, okD_str, okL_int, eqD_int, eqD_bl, eqD_str, eqD_tup, eqD_lst, eqL_cons, eqL_nil, eqL_cn, eqL_nc, eqL_int, Bool.and_eq_true, Bool.or_eq_true, Bool.not_eq_true', Bool.and_false, Bool.false_and, Bool.or_false, Bool.false_or, Bool.or_true, Bool.true_or, Bool.and_true, Bool.true_and, Bool.and_self, wIsT2, wDct0, wLstOf, wRepF, wAsgH, DV.hN, hIx, hCons, hNil, hTup, wLM, gCnt, gIdx, gList, gSorted, wAppPop, wRaise0, wRaise1, wTry, wIsE, wAct, wFl, flD, okD_bl, within, D.isI]
theorem sp_check_number {x : D} {lo hi : Int} (h : x.isHand = false) : T_check_number [x, .int lo, .int hi] Q E ↔ if within x lo hi = true then Q .non else E ("NoNumber", []) := by
  unfold T_check_number wFn B_check_number
  simp only [wSeq, wAsg, wOwn, wF, wLc, wSkip, wBrk, wCnt, wRet, wRetF, wRetN, wDrop, wIfS, wPar, wFor, wWh, wV, wApp, wExt, wSetIx, wAug, wVal, wLook, wC, wOp, wTst, wChain, wAnd, wOr, wNot, wAndV, wOrV, wNotV, wIf, wNil, wCons, wTup, wLst, wCall, wCB, wIsT, wiR1, wiR2, wiSq, wiEn, wiZip, gN, gT1, gT2, gT3, gT4, gT5, gT6, gT7, wYes, gAdd, DV.gSub, gMul, gMod, gDiv, gPow, gLt, gLe, gGt, gGe, gCmp, gEq, gNe, gIs, gIsN, DV.isNon, gIn, gNotIn, gIx, gSlc, wSlc, wNoP, wPart, gLen, gAbs, gInt, gMin2, gMax2, gAll, gAny, gSum, gTuple, wNeg, wRev, itemsOf, D.isTy, D.isHand, Sl.toD, big_0, big_1, big_2, big_3, big_4, big_5, big_6, big_7, big_8, big_9, big_10, big_11, big_12, draw_iff, own_ex, val_ex, wipeE, restE, Sl.keep, Option.getD_some, get_z, get_s, set_z, set_s, List.length_cons, List.length_nil, atI_0, atI_1, atI_2, atI_3, atI_4, ixN_5_0, ixN_5_1, ixN_5_2, ixN_5_3, ixN_5_4, D.bl.injEq, D.int.injEq, D.lst.injEq, D.tup.injEq, D.str.injEq, Sl.own.injEq, Sl.val.injEq, Option.some.injEq, exists_eq_left', exists_eq_left, exists_eq', exists_eq, or_true, true_or, or_false, false_or, CMul, CPow, natAbs_10, natAbs_2, Int.cast_ofNat_Int, Nat.reducePow, exists_and_left, exists_const, and_assoc, true_and, and_true, and_self, false_and, and_false, if_true, if_false, ite_true, ite_false, reduceCtorEq, decide_true, decide_false, decide_eq_true_eq, decide_eq_false_iff_not, Bool.not_true, Bool.not_false, Bool.false_eq_true, List.replicate_zero, List.replicate_succ, List.map_cons, List.map_nil, List.nil_append, List.cons_append, Nat.reduceSub, Nat.reduceAdd, Nat.reduceLeDiff, Nat.reduceLT, Int.reduceLT, Int.reduceLE, Int.reduceAdd, Int.reduceSub, Int.reduceMul, Int.reduceNeg, Int.reduceMod, Int.reduceDiv, Int.reducePow, Int.reduceToNat, okD_int, okD_bl, okD_lst, okD_tup, okD_non, okL_nil, okL_cons, okD_str, okL_int, eqD_int, eqD_bl, eqD_str, eqD_tup, eqD_lst, eqL_cons, eqL_nil, eqL_cn, eqL_nc, eqL_int, Bool.and_eq_true, Bool.or_eq_true, Bool.not_eq_true', Bool.and_false, Bool.false_and, Bool.or_false, Bool.false_or, Bool.or_true, Bool.true_or, Bool.and_true, Bool.true_and, Bool.and_self, wIsT2, wDct0, wLstOf, wRepF, wAsgH, DV.hN, hIx, hCons, hNil, hTup, wLM, gCnt, gIdx, gList, gSorted, wAppPop, wRaise0, wRaise1, wTry, wIsE, wAct, wFl, flD, okD_bl, sp_is_within h]
  by_cases hw : within x lo hi = true <;> simp [hw]
theorem sp_some {xs : List D} (h1 : 0 < xs.length) (h2 : xs.length < 1073741824) (h : ∀ x ∈ xs, Q x) : T__law_some [.hand, .lst xs] Q E := by
  unfold T__law_some wFn B__law_some
  (try simp only [wSeq, wAsg, wOwn, wF, wLc, wSkip, wBrk, wCnt, wRet, wRetF, wRetN, wDrop, wIfS, wPar, wFor, wWh, wV, wApp, wExt, wSetIx, wAug, wVal, wLook, wC, wOp, wTst, wChain, wAnd, wOr, wNot, wAndV, wOrV, wNotV, wIf, wNil, wCons, wTup, wLst, wCall, wCB, wIsT, wiR1, wiR2, wiSq, wiEn, wiZip, gN, gT1, gT2, gT3, gT4, gT5, gT6, gT7, wYes, gAdd, DV.gSub, gMul, gMod, gDiv, gPow, gLt, gLe, gGt, gGe, gCmp, gEq, gNe, gIs, gIsN, DV.isNon, gIn, gNotIn, gIx, gSlc, wSlc, wNoP, wPart, gLen, gAbs, gInt, gMin2, gMax2, gAll, gAny, gSum, gTuple, wNeg, wRev, itemsOf, D.isTy, D.isHand, Sl.toD, big_0, big_1, big_2, big_3, big_4, big_5, big_6, big_7, big_8, big_9, big_10, big_11, big_12, draw_iff, own_ex, val_ex, wipeE, restE, Sl.keep, Option.getD_some, get_z, get_s, set_z, set_s, List.length_cons, List.length_nil, atI_0, atI_1, atI_2, atI_3, atI_4, ixN_5_0, ixN_5_1, ixN_5_2, ixN_5_3, ixN_5_4, D.bl.injEq, D.int.injEq, D.lst.injEq, D.tup.injEq, D.str.injEq, Sl.own.injEq, Sl.val.injEq, Option.some.injEq, exists_eq_left', exists_eq_left, exists_eq', exists_eq, or_true, true_or, or_false, false_or, CMul, CPow, natAbs_10, natAbs_2, Int.cast_ofNat_Int, Nat.reducePow, exists_and_left, exists_const, and_assoc, true_and, and_true, and_self, false_and, and_false, if_true, if_false, ite_true, ite_false, reduceCtorEq, decide_true, decide_false, decide_eq_true_eq, decide_eq_false_iff_not, Bool.not_true, Bool.not_false, Bool.false_eq_true, List.replicate_zero, List.replicate_succ, List.map_cons, List.map_nil, List.nil_append, List.cons_append, Nat.reduceSub, Nat.reduceAdd, Nat.reduceLeDiff, Nat.reduceLT, Int.reduceLT, Int.reduceLE, Int.reduceAdd, Int.reduceSub, Int.reduceMul, Int.reduceNeg, Int.reduceMod, Int.reduceDiv, Int.reducePow, Int.reduceToNat, okD_int, okD_bl, okD_lst, okD_tup, okD_non, okL_nil, okL_cons, okD_str, okL_int, eqD_int, eqD_bl, eqD_str, eqD_tup, eqD_lst, eqL_cons, eqL_nil, eqL_cn, eqL_nc, eqL_int, Bool.and_eq_true, Bool.or_eq_true, Bool.not_eq_true', Bool.and_false, Bool.false_and, Bool.or_false, Bool.false_or, Bool.or_true, Bool.true_or, Bool.and_true, Bool.true_and, Bool.and_self, wIsT2, wDct0, wLstOf, wRepF, wAsgH, DV.hN, hIx, hCons, hNil, hTup, wLM, gCnt, gIdx, gList, gSorted, wAppPop, wRaise0, wRaise1, wTry, wIsE, wAct, wFl, flD, okD_bl])
  refine ⟨by omega, by omega, fun d d1 d2 => ?_⟩
  obtain ⟨n, rfl⟩ := Int.eq_ofNat_of_zero_le d1
  rw [atI_nat (k := n) rfl]
  have hn : n < xs.length := by omega
  exact ⟨xs[n], List.getElem?_eq_getElem hn, h _ (List.getElem_mem hn)⟩
end
end Law

set_option Elab.async false
set_option linter.all false
set_option maxRecDepth 100000
namespace Law
open PySem PySem.Spec PyProof.Rows L2 DV
/-! the first place and two signs that leave nought -/
def hit (m w a b : Int) : Bool := decide (¬ a = b) && decide ((a - b) * w % m = 0)
def fB (m w p a b : Int) : Option D := if hit m w a b = true then some (.tup [.str "place", .int p, .int a, .int b]) else none
def fA (s m w p a : Int) : Option D := (rangeI 0 s).findSome? (fB m w p a)
def fP (s m : Int) (x : Int × Int) : Option D := (rangeI 0 s).findSome? (fA s m x.2 x.1)
def least (s m : Int) (pw : List (Int × Int)) : D := (pw.findSome? (fP s m)).getD (.tup [.str "seen"])
def enumI : Int → List Int → List (Int × Int)
  | _, [] => []
  | k, x :: r => (k, x) :: enumI (k + 1) r
def embP (x : Int × Int) : D := .tup [.int x.1, .int x.2]
theorem enumD_map : ∀ (k : Nat) (ws : List Int), enumD k (ws.map D.int) = (enumI k ws).map embP
  | _, [] => rfl
  | k, x :: r => by
    rw [List.map_cons, enumD, enumI, List.map_cons, enumD_map (k + 1) r]; rfl
theorem enumI_mem : ∀ {k : Int} {ws : List Int} {x : Int × Int}, x ∈ enumI k ws → x.2 ∈ ws ∧ k ≤ x.1 ∧ x.1 < k + ws.length
  | _, [], _, h => by cases h
  | k, y :: r, x, h => by
    rw [enumI] at h
    rcases List.mem_cons.mp h with rfl | h
    · exact ⟨List.mem_cons_self, by simp, by simp; omega⟩
    · obtain ⟨h1, h2, h3⟩ := enumI_mem h
      exact ⟨List.mem_cons_of_mem _ h1, by omega, by simp; omega⟩
structure Sm (s m : Int) : Prop where
  s1 : 2 ≤ s
  s2 : s ≤ 36
  m1 : 2 ≤ m
  m2 : m ≤ 200
section
variable {Q : D → Prop} {E : Er → Prop} {s m : Int} (c : Sm s m) {ws : List Int}
include c
theorem sp_law_least {row : D} (hr : row = .tup (ws.map D.int) ∨ row = .lst (ws.map D.int)) (hw : ∀ w ∈ ws, -1000 < w ∧ w < 1000) (h : Q (least s m (enumI 0 ws))) : T__law_least [.int s, .int m, row] Q E := by
  obtain ⟨s1, s2, m1, m2⟩ := c
  have main : forGo (DV.gTup 2 (DV.gCons (gN 3) (DV.gCons (gN 4) DV.gNil))) B__law_least_2 { nx := fun env1 => B__law_least_6 env1 { nx := fun _ => Q .non, rt := fun d _ => Q d, bk := fun _ => False, ct := fun _ => False, ex := fun er _ => E er }, rt := fun d _ => Q d, bk := fun _ => False, ct := fun _ => False, ex := fun er _ => E er } (enumD 0 (ws.map D.int)) [.val (.int s), .val (.int m), .val row, .no, .no, .no, .no] := by
    rw [show enumD 0 (ws.map D.int) = (enumI 0 ws).map embP from enumD_map 0 ws]
    refine for_search (fP s m) (fun env => ∃ s3 s4 s5 s6, env = [.val (.int s), .val (.int m), .val row, s3, s4, s5, s6]) (fun d hd e => ?_) (fun hn e he => ?_) (fun x hx env he P hP1 hP2 => ?_) ⟨_, _, _, _, rfl⟩
    · unfold least at h
      rw [hd] at h
      exact h
    · obtain ⟨s3, s4, s5, s6, rfl⟩ := he
      unfold least at h
      rw [hn] at h
      unfold B__law_least_6
      (try simp only [wSeq, wAsg, wOwn, wF, wLc, wSkip, wBrk, wCnt, wRet, wRetF, wRetN, wDrop, wIfS, wPar, wFor, wWh, wV, wApp, wExt, wSetIx, wAug, wVal, wLook, wC, wOp, wTst, wChain, wAnd, wOr, wNot, wAndV, wOrV, wNotV, wIf, wNil, wCons, wTup, wLst, wCall, wCB, wIsT, wiR1, wiR2, wiSq, wiEn, wiZip, gN, gT1, gT2, gT3, gT4, gT5, gT6, gT7, wYes, gAdd, DV.gSub, gMul, gMod, gDiv, gPow, gLt, gLe, gGt, gGe, gCmp, gEq, gNe, gIs, gIsN, DV.isNon, gIn, gNotIn, gIx, gSlc, wSlc, wNoP, wPart, gLen, gAbs, gInt, gMin2, gMax2, gAll, gAny, gSum, gTuple, wNeg, wRev, itemsOf, D.isTy, D.isHand, Sl.toD, big_0, big_1, big_2, big_3, big_4, big_5, big_6, big_7, big_8, big_9, big_10, big_11, big_12, draw_iff, own_ex, val_ex, wipeE, restE, Sl.keep, Option.getD_some, get_z, get_s, set_z, set_s, List.length_cons, List.length_nil, atI_0, atI_1, atI_2, atI_3, atI_4, ixN_5_0, ixN_5_1, ixN_5_2, ixN_5_3, ixN_5_4, D.bl.injEq, D.int.injEq, D.lst.injEq, D.tup.injEq, D.str.injEq, Sl.own.injEq, Sl.val.injEq, Option.some.injEq, exists_eq_left', exists_eq_left, exists_eq', exists_eq, or_true, true_or, or_false, false_or, CMul, CPow, natAbs_10, natAbs_2, Int.cast_ofNat_Int, Nat.reducePow, exists_and_left, exists_const, and_assoc, true_and, and_true, and_self, false_and, and_false, if_true, if_false, ite_true, ite_false, reduceCtorEq, decide_true, decide_false, decide_eq_true_eq, decide_eq_false_iff_not, Bool.not_true, Bool.not_false, Bool.false_eq_true, List.replicate_zero, List.replicate_succ, List.map_cons, List.map_nil, List.nil_append, List.cons_append, Nat.reduceSub, Nat.reduceAdd, Nat.reduceLeDiff, Nat.reduceLT, Int.reduceLT, Int.reduceLE, Int.reduceAdd, Int.reduceSub, Int.reduceMul, Int.reduceNeg, Int.reduceMod, Int.reduceDiv, Int.reducePow, Int.reduceToNat, okD_int, okD_bl, okD_lst, okD_tup, okD_non, okL_nil, okL_cons, okD_str, okL_int, eqD_int, eqD_bl, eqD_str, eqD_tup, eqD_lst, eqL_cons, eqL_nil, eqL_cn, eqL_nc, eqL_int, Bool.and_eq_true, Bool.or_eq_true, Bool.not_eq_true', Bool.and_false, Bool.false_and, Bool.or_false, Bool.false_or, Bool.or_true, Bool.true_or, Bool.and_true, Bool.true_and, Bool.and_self, wIsT2, wDct0, wLstOf, wRepF, wAsgH, DV.hN, hIx, hCons, hNil, hTup, wLM, gCnt, gIdx, gList, gSorted, wAppPop, wRaise0, wRaise1, wTry, wIsE, wAct, wFl, flD, okD_bl])
      exact h
    · obtain ⟨s3, s4, s5, s6, rfl⟩ := he
      obtain ⟨p, w⟩ := x
      obtain ⟨hwm, hp1, hp2⟩ := enumI_mem hx
      have hw2 := hw _ hwm
      unfold embP
      (try simp only [wSeq, wAsg, wOwn, wF, wLc, wSkip, wBrk, wCnt, wRet, wRetF, wRetN, wDrop, wIfS, wPar, wFor, wWh, wV, wApp, wExt, wSetIx, wAug, wVal, wLook, wC, wOp, wTst, wChain, wAnd, wOr, wNot, wAndV, wOrV, wNotV, wIf, wNil, wCons, wTup, wLst, wCall, wCB, wIsT, wiR1, wiR2, wiSq, wiEn, wiZip, gN, gT1, gT2, gT3, gT4, gT5, gT6, gT7, wYes, gAdd, DV.gSub, gMul, gMod, gDiv, gPow, gLt, gLe, gGt, gGe, gCmp, gEq, gNe, gIs, gIsN, DV.isNon, gIn, gNotIn, gIx, gSlc, wSlc, wNoP, wPart, gLen, gAbs, gInt, gMin2, gMax2, gAll, gAny, gSum, gTuple, wNeg, wRev, itemsOf, D.isTy, D.isHand, Sl.toD, big_0, big_1, big_2, big_3, big_4, big_5, big_6, big_7, big_8, big_9, big_10, big_11, big_12, draw_iff, own_ex, val_ex, wipeE, restE, Sl.keep, Option.getD_some, get_z, get_s, set_z, set_s, List.length_cons, List.length_nil, atI_0, atI_1, atI_2, atI_3, atI_4, ixN_5_0, ixN_5_1, ixN_5_2, ixN_5_3, ixN_5_4, D.bl.injEq, D.int.injEq, D.lst.injEq, D.tup.injEq, D.str.injEq, Sl.own.injEq, Sl.val.injEq, Option.some.injEq, exists_eq_left', exists_eq_left, exists_eq', exists_eq, or_true, true_or, or_false, false_or, CMul, CPow, natAbs_10, natAbs_2, Int.cast_ofNat_Int, Nat.reducePow, exists_and_left, exists_const, and_assoc, true_and, and_true, and_self, false_and, and_false, if_true, if_false, ite_true, ite_false, reduceCtorEq, decide_true, decide_false, decide_eq_true_eq, decide_eq_false_iff_not, Bool.not_true, Bool.not_false, Bool.false_eq_true, List.replicate_zero, List.replicate_succ, List.map_cons, List.map_nil, List.nil_append, List.cons_append, Nat.reduceSub, Nat.reduceAdd, Nat.reduceLeDiff, Nat.reduceLT, Int.reduceLT, Int.reduceLE, Int.reduceAdd, Int.reduceSub, Int.reduceMul, Int.reduceNeg, Int.reduceMod, Int.reduceDiv, Int.reducePow, Int.reduceToNat, okD_int, okD_bl, okD_lst, okD_tup, okD_non, okL_nil, okL_cons, okD_str, okL_int, eqD_int, eqD_bl, eqD_str, eqD_tup, eqD_lst, eqL_cons, eqL_nil, eqL_cn, eqL_nc, eqL_int, Bool.and_eq_true, Bool.or_eq_true, Bool.not_eq_true', Bool.and_false, Bool.false_and, Bool.or_false, Bool.false_or, Bool.or_true, Bool.true_or, Bool.and_true, Bool.true_and, Bool.and_self, wIsT2, wDct0, wLstOf, wRepF, wAsgH, DV.hN, hIx, hCons, hNil, hTup, wLM, gCnt, gIdx, gList, gSorted, wAppPop, wRaise0, wRaise1, wTry, wIsE, wAct, wFl, flD, okD_bl])
      unfold B__law_least_2
      (try simp only [wSeq, wAsg, wOwn, wF, wLc, wSkip, wBrk, wCnt, wRet, wRetF, wRetN, wDrop, wIfS, wPar, wFor, wWh, wV, wApp, wExt, wSetIx, wAug, wVal, wLook, wC, wOp, wTst, wChain, wAnd, wOr, wNot, wAndV, wOrV, wNotV, wIf, wNil, wCons, wTup, wLst, wCall, wCB, wIsT, wiR1, wiR2, wiSq, wiEn, wiZip, gN, gT1, gT2, gT3, gT4, gT5, gT6, gT7, wYes, gAdd, DV.gSub, gMul, gMod, gDiv, gPow, gLt, gLe, gGt, gGe, gCmp, gEq, gNe, gIs, gIsN, DV.isNon, gIn, gNotIn, gIx, gSlc, wSlc, wNoP, wPart, gLen, gAbs, gInt, gMin2, gMax2, gAll, gAny, gSum, gTuple, wNeg, wRev, itemsOf, D.isTy, D.isHand, Sl.toD, big_0, big_1, big_2, big_3, big_4, big_5, big_6, big_7, big_8, big_9, big_10, big_11, big_12, draw_iff, own_ex, val_ex, wipeE, restE, Sl.keep, Option.getD_some, get_z, get_s, set_z, set_s, List.length_cons, List.length_nil, atI_0, atI_1, atI_2, atI_3, atI_4, ixN_5_0, ixN_5_1, ixN_5_2, ixN_5_3, ixN_5_4, D.bl.injEq, D.int.injEq, D.lst.injEq, D.tup.injEq, D.str.injEq, Sl.own.injEq, Sl.val.injEq, Option.some.injEq, exists_eq_left', exists_eq_left, exists_eq', exists_eq, or_true, true_or, or_false, false_or, CMul, CPow, natAbs_10, natAbs_2, Int.cast_ofNat_Int, Nat.reducePow, exists_and_left, exists_const, and_assoc, true_and, and_true, and_self, false_and, and_false, if_true, if_false, ite_true, ite_false, reduceCtorEq, decide_true, decide_false, decide_eq_true_eq, decide_eq_false_iff_not, Bool.not_true, Bool.not_false, Bool.false_eq_true, List.replicate_zero, List.replicate_succ, List.map_cons, List.map_nil, List.nil_append, List.cons_append, Nat.reduceSub, Nat.reduceAdd, Nat.reduceLeDiff, Nat.reduceLT, Int.reduceLT, Int.reduceLE, Int.reduceAdd, Int.reduceSub, Int.reduceMul, Int.reduceNeg, Int.reduceMod, Int.reduceDiv, Int.reducePow, Int.reduceToNat, okD_int, okD_bl, okD_lst, okD_tup, okD_non, okL_nil, okL_cons, okD_str, okL_int, eqD_int, eqD_bl, eqD_str, eqD_tup, eqD_lst, eqL_cons, eqL_nil, eqL_cn, eqL_nc, eqL_int, Bool.and_eq_true, Bool.or_eq_true, Bool.not_eq_true', Bool.and_false, Bool.false_and, Bool.or_false, Bool.false_or, Bool.or_true, Bool.true_or, Bool.and_true, Bool.true_and, Bool.and_self, wIsT2, wDct0, wLstOf, wRepF, wAsgH, DV.hN, hIx, hCons, hNil, hTup, wLM, gCnt, gIdx, gList, gSorted, wAppPop, wRaise0, wRaise1, wTry, wIsE, wAct, wFl, flD, okD_bl])
      refine ⟨by omega, by omega, ?_⟩
      rw [rangeD_map]
      refine for_search (fA s m w p) (fun env => ∃ s5 s6, env = [.val (.int s), .val (.int m), .val row, .val (.int p), .val (.int w), s5, s6]) (fun d hd e => hP1 d hd e) (fun hn e he => ?_) (fun a ha env he P' hP1' hP2' => ?_) ⟨_, _, rfl⟩
      · obtain ⟨s5, s6, rfl⟩ := he
        exact hP2 hn _ ⟨_, _, _, _, rfl⟩
      · obtain ⟨s5, s6, rfl⟩ := he
        rw [mem_rangeI] at ha
        (try simp only [wSeq, wAsg, wOwn, wF, wLc, wSkip, wBrk, wCnt, wRet, wRetF, wRetN, wDrop, wIfS, wPar, wFor, wWh, wV, wApp, wExt, wSetIx, wAug, wVal, wLook, wC, wOp, wTst, wChain, wAnd, wOr, wNot, wAndV, wOrV, wNotV, wIf, wNil, wCons, wTup, wLst, wCall, wCB, wIsT, wiR1, wiR2, wiSq, wiEn, wiZip, gN, gT1, gT2, gT3, gT4, gT5, gT6, gT7, wYes, gAdd, DV.gSub, gMul, gMod, gDiv, gPow, gLt, gLe, gGt, gGe, gCmp, gEq, gNe, gIs, gIsN, DV.isNon, gIn, gNotIn, gIx, gSlc, wSlc, wNoP, wPart, gLen, gAbs, gInt, gMin2, gMax2, gAll, gAny, gSum, gTuple, wNeg, wRev, itemsOf, D.isTy, D.isHand, Sl.toD, big_0, big_1, big_2, big_3, big_4, big_5, big_6, big_7, big_8, big_9, big_10, big_11, big_12, draw_iff, own_ex, val_ex, wipeE, restE, Sl.keep, Option.getD_some, get_z, get_s, set_z, set_s, List.length_cons, List.length_nil, atI_0, atI_1, atI_2, atI_3, atI_4, ixN_5_0, ixN_5_1, ixN_5_2, ixN_5_3, ixN_5_4, D.bl.injEq, D.int.injEq, D.lst.injEq, D.tup.injEq, D.str.injEq, Sl.own.injEq, Sl.val.injEq, Option.some.injEq, exists_eq_left', exists_eq_left, exists_eq', exists_eq, or_true, true_or, or_false, false_or, CMul, CPow, natAbs_10, natAbs_2, Int.cast_ofNat_Int, Nat.reducePow, exists_and_left, exists_const, and_assoc, true_and, and_true, and_self, false_and, and_false, if_true, if_false, ite_true, ite_false, reduceCtorEq, decide_true, decide_false, decide_eq_true_eq, decide_eq_false_iff_not, Bool.not_true, Bool.not_false, Bool.false_eq_true, List.replicate_zero, List.replicate_succ, List.map_cons, List.map_nil, List.nil_append, List.cons_append, Nat.reduceSub, Nat.reduceAdd, Nat.reduceLeDiff, Nat.reduceLT, Int.reduceLT, Int.reduceLE, Int.reduceAdd, Int.reduceSub, Int.reduceMul, Int.reduceNeg, Int.reduceMod, Int.reduceDiv, Int.reducePow, Int.reduceToNat, okD_int, okD_bl, okD_lst, okD_tup, okD_non, okL_nil, okL_cons, okD_str, okL_int, eqD_int, eqD_bl, eqD_str, eqD_tup, eqD_lst, eqL_cons, eqL_nil, eqL_cn, eqL_nc, eqL_int, Bool.and_eq_true, Bool.or_eq_true, Bool.not_eq_true', Bool.and_false, Bool.false_and, Bool.or_false, Bool.false_or, Bool.or_true, Bool.true_or, Bool.and_true, Bool.true_and, Bool.and_self, wIsT2, wDct0, wLstOf, wRepF, wAsgH, DV.hN, hIx, hCons, hNil, hTup, wLM, gCnt, gIdx, gList, gSorted, wAppPop, wRaise0, wRaise1, wTry, wIsE, wAct, wFl, flD, okD_bl])
        unfold B__law_least_3
        (try simp only [wSeq, wAsg, wOwn, wF, wLc, wSkip, wBrk, wCnt, wRet, wRetF, wRetN, wDrop, wIfS, wPar, wFor, wWh, wV, wApp, wExt, wSetIx, wAug, wVal, wLook, wC, wOp, wTst, wChain, wAnd, wOr, wNot, wAndV, wOrV, wNotV, wIf, wNil, wCons, wTup, wLst, wCall, wCB, wIsT, wiR1, wiR2, wiSq, wiEn, wiZip, gN, gT1, gT2, gT3, gT4, gT5, gT6, gT7, wYes, gAdd, DV.gSub, gMul, gMod, gDiv, gPow, gLt, gLe, gGt, gGe, gCmp, gEq, gNe, gIs, gIsN, DV.isNon, gIn, gNotIn, gIx, gSlc, wSlc, wNoP, wPart, gLen, gAbs, gInt, gMin2, gMax2, gAll, gAny, gSum, gTuple, wNeg, wRev, itemsOf, D.isTy, D.isHand, Sl.toD, big_0, big_1, big_2, big_3, big_4, big_5, big_6, big_7, big_8, big_9, big_10, big_11, big_12, draw_iff, own_ex, val_ex, wipeE, restE, Sl.keep, Option.getD_some, get_z, get_s, set_z, set_s, List.length_cons, List.length_nil, atI_0, atI_1, atI_2, atI_3, atI_4, ixN_5_0, ixN_5_1, ixN_5_2, ixN_5_3, ixN_5_4, D.bl.injEq, D.int.injEq, D.lst.injEq, D.tup.injEq, D.str.injEq, Sl.own.injEq, Sl.val.injEq, Option.some.injEq, exists_eq_left', exists_eq_left, exists_eq', exists_eq, or_true, true_or, or_false, false_or, CMul, CPow, natAbs_10, natAbs_2, Int.cast_ofNat_Int, Nat.reducePow, exists_and_left, exists_const, and_assoc, true_and, and_true, and_self, false_and, and_false, if_true, if_false, ite_true, ite_false, reduceCtorEq, decide_true, decide_false, decide_eq_true_eq, decide_eq_false_iff_not, Bool.not_true, Bool.not_false, Bool.false_eq_true, List.replicate_zero, List.replicate_succ, List.map_cons, List.map_nil, List.nil_append, List.cons_append, Nat.reduceSub, Nat.reduceAdd, Nat.reduceLeDiff, Nat.reduceLT, Int.reduceLT, Int.reduceLE, Int.reduceAdd, Int.reduceSub, Int.reduceMul, Int.reduceNeg, Int.reduceMod, Int.reduceDiv, Int.reducePow, Int.reduceToNat, okD_int, okD_bl, okD_lst, okD_tup, okD_non, okL_nil, okL_cons, okD_str, okL_int, eqD_int, eqD_bl, eqD_str, eqD_tup, eqD_lst, eqL_cons, eqL_nil, eqL_cn, eqL_nc, eqL_int, Bool.and_eq_true, Bool.or_eq_true, Bool.not_eq_true', Bool.and_false, Bool.false_and, Bool.or_false, Bool.false_or, Bool.or_true, Bool.true_or, Bool.and_true, Bool.true_and, Bool.and_self, wIsT2, wDct0, wLstOf, wRepF, wAsgH, DV.hN, hIx, hCons, hNil, hTup, wLM, gCnt, gIdx, gList, gSorted, wAppPop, wRaise0, wRaise1, wTry, wIsE, wAct, wFl, flD, okD_bl])
        refine ⟨by omega, by omega, ?_⟩
        rw [rangeD_map]
        refine for_search (fB m w p a) (fun env => ∃ s6, env = [.val (.int s), .val (.int m), .val row, .val (.int p), .val (.int w), .val (.int a), s6]) (fun d hd e => hP1' d hd e) (fun hn e he => ?_) (fun b hb env he P'' hP1'' hP2'' => ?_) ⟨_, rfl⟩
        · obtain ⟨s6, rfl⟩ := he
          exact hP2' hn _ ⟨_, _, rfl⟩
        · obtain ⟨s6, rfl⟩ := he
          rw [mem_rangeI] at hb
          (try simp only [wSeq, wAsg, wOwn, wF, wLc, wSkip, wBrk, wCnt, wRet, wRetF, wRetN, wDrop, wIfS, wPar, wFor, wWh, wV, wApp, wExt, wSetIx, wAug, wVal, wLook, wC, wOp, wTst, wChain, wAnd, wOr, wNot, wAndV, wOrV, wNotV, wIf, wNil, wCons, wTup, wLst, wCall, wCB, wIsT, wiR1, wiR2, wiSq, wiEn, wiZip, gN, gT1, gT2, gT3, gT4, gT5, gT6, gT7, wYes, gAdd, DV.gSub, gMul, gMod, gDiv, gPow, gLt, gLe, gGt, gGe, gCmp, gEq, gNe, gIs, gIsN, DV.isNon, gIn, gNotIn, gIx, gSlc, wSlc, wNoP, wPart, gLen, gAbs, gInt, gMin2, gMax2, gAll, gAny, gSum, gTuple, wNeg, wRev, itemsOf, D.isTy, D.isHand, Sl.toD, big_0, big_1, big_2, big_3, big_4, big_5, big_6, big_7, big_8, big_9, big_10, big_11, big_12, draw_iff, own_ex, val_ex, wipeE, restE, Sl.keep, Option.getD_some, get_z, get_s, set_z, set_s, List.length_cons, List.length_nil, atI_0, atI_1, atI_2, atI_3, atI_4, ixN_5_0, ixN_5_1, ixN_5_2, ixN_5_3, ixN_5_4, D.bl.injEq, D.int.injEq, D.lst.injEq, D.tup.injEq, D.str.injEq, Sl.own.injEq, Sl.val.injEq, Option.some.injEq, exists_eq_left', exists_eq_left, exists_eq', exists_eq, or_true, true_or, or_false, false_or, CMul, CPow, natAbs_10, natAbs_2, Int.cast_ofNat_Int, Nat.reducePow, exists_and_left, exists_const, and_assoc, true_and, and_true, and_self, false_and, and_false, if_true, if_false, ite_true, ite_false, reduceCtorEq, decide_true, decide_false, decide_eq_true_eq, decide_eq_false_iff_not, Bool.not_true, Bool.not_false, Bool.false_eq_true, List.replicate_zero, List.replicate_succ, List.map_cons, List.map_nil, List.nil_append, List.cons_append, Nat.reduceSub, Nat.reduceAdd, Nat.reduceLeDiff, Nat.reduceLT, Int.reduceLT, Int.reduceLE, Int.reduceAdd, Int.reduceSub, Int.reduceMul, Int.reduceNeg, Int.reduceMod, Int.reduceDiv, Int.reducePow, Int.reduceToNat, okD_int, okD_bl, okD_lst, okD_tup, okD_non, okL_nil, okL_cons, okD_str, okL_int, eqD_int, eqD_bl, eqD_str, eqD_tup, eqD_lst, eqL_cons, eqL_nil, eqL_cn, eqL_nc, eqL_int, Bool.and_eq_true, Bool.or_eq_true, Bool.not_eq_true', Bool.and_false, Bool.false_and, Bool.or_false, Bool.false_or, Bool.or_true, Bool.true_or, Bool.and_true, Bool.true_and, Bool.and_self, wIsT2, wDct0, wLstOf, wRepF, wAsgH, DV.hN, hIx, hCons, hNil, hTup, wLM, gCnt, gIdx, gList, gSorted, wAppPop, wRaise0, wRaise1, wTry, wIsE, wAct, wFl, flD, okD_bl])
          unfold B__law_least_4
          by_cases hab : a = b
          · simp only [wSeq, wAsg, wOwn, wF, wLc, wSkip, wBrk, wCnt, wRet, wRetF, wRetN, wDrop, wIfS, wPar, wFor, wWh, wV, wApp, wExt, wSetIx, wAug, wVal, wLook, wC, wOp, wTst, wChain, wAnd, wOr, wNot, wAndV, wOrV, wNotV, wIf, wNil, wCons, wTup, wLst, wCall, wCB, wIsT, wiR1, wiR2, wiSq, wiEn, wiZip, gN, gT1, gT2, gT3, gT4, gT5, gT6, gT7, wYes, gAdd, DV.gSub, gMul, gMod, gDiv, gPow, gLt, gLe, gGt, gGe, gCmp, gEq, gNe, gIs, gIsN, DV.isNon, gIn, gNotIn, gIx, gSlc, wSlc, wNoP, wPart, gLen, gAbs, gInt, gMin2, gMax2, gAll, gAny, gSum, gTuple, wNeg, wRev, itemsOf, D.isTy, D.isHand, Sl.toD, big_0, big_1, big_2, big_3, big_4, big_5, big_6, big_7, big_8, big_9, big_10, big_11, big_12, draw_iff, own_ex, val_ex, wipeE, restE, Sl.keep, Option.getD_some, get_z, get_s, set_z, set_s, List.length_cons, List.length_nil, atI_0, atI_1, atI_2, atI_3, atI_4, ixN_5_0, ixN_5_1, ixN_5_2, ixN_5_3, ixN_5_4, D.bl.injEq, D.int.injEq, D.lst.injEq, D.tup.injEq, D.str.injEq, Sl.own.injEq, Sl.val.injEq, Option.some.injEq, exists_eq_left', exists_eq_left, exists_eq', exists_eq, or_true, true_or, or_false, false_or, CMul, CPow, natAbs_10, natAbs_2, Int.cast_ofNat_Int, Nat.reducePow, exists_and_left, exists_const, and_assoc, true_and, and_true, and_self, false_and, and_false, if_true, if_false, ite_true, ite_false, reduceCtorEq, decide_true, decide_false, decide_eq_true_eq, decide_eq_false_iff_not, Bool.not_true, Bool.not_false, Bool.false_eq_true, List.replicate_zero, List.replicate_succ, List.map_cons, List.map_nil, List.nil_append, List.cons_append, Nat.reduceSub, Nat.reduceAdd, Nat.reduceLeDiff, Nat.reduceLT, Int.reduceLT, Int.reduceLE, Int.reduceAdd, Int.reduceSub, Int.reduceMul, Int.reduceNeg, Int.reduceMod, Int.reduceDiv, Int.reducePow, Int.reduceToNat, okD_int, okD_bl, okD_lst, okD_tup, okD_non, okL_nil, okL_cons, okD_str, okL_int, eqD_int, eqD_bl, eqD_str, eqD_tup, eqD_lst, eqL_cons, eqL_nil, eqL_cn, eqL_nc, eqL_int, Bool.and_eq_true, Bool.or_eq_true, Bool.not_eq_true', Bool.and_false, Bool.false_and, Bool.or_false, Bool.false_or, Bool.or_true, Bool.true_or, Bool.and_true, Bool.true_and, Bool.and_self, wIsT2, wDct0, wLstOf, wRepF, wAsgH, DV.hN, hIx, hCons, hNil, hTup, wLM, gCnt, gIdx, gList, gSorted, wAppPop, wRaise0, wRaise1, wTry, wIsE, wAct, wFl, flD, okD_bl, hab]
            refine hP2'' ?_ _ ⟨_, by rw [hab]⟩
            unfold fB hit
            simp [hab]
          · simp only [wSeq, wAsg, wOwn, wF, wLc, wSkip, wBrk, wCnt, wRet, wRetF, wRetN, wDrop, wIfS, wPar, wFor, wWh, wV, wApp, wExt, wSetIx, wAug, wVal, wLook, wC, wOp, wTst, wChain, wAnd, wOr, wNot, wAndV, wOrV, wNotV, wIf, wNil, wCons, wTup, wLst, wCall, wCB, wIsT, wiR1, wiR2, wiSq, wiEn, wiZip, gN, gT1, gT2, gT3, gT4, gT5, gT6, gT7, wYes, gAdd, DV.gSub, gMul, gMod, gDiv, gPow, gLt, gLe, gGt, gGe, gCmp, gEq, gNe, gIs, gIsN, DV.isNon, gIn, gNotIn, gIx, gSlc, wSlc, wNoP, wPart, gLen, gAbs, gInt, gMin2, gMax2, gAll, gAny, gSum, gTuple, wNeg, wRev, itemsOf, D.isTy, D.isHand, Sl.toD, big_0, big_1, big_2, big_3, big_4, big_5, big_6, big_7, big_8, big_9, big_10, big_11, big_12, draw_iff, own_ex, val_ex, wipeE, restE, Sl.keep, Option.getD_some, get_z, get_s, set_z, set_s, List.length_cons, List.length_nil, atI_0, atI_1, atI_2, atI_3, atI_4, ixN_5_0, ixN_5_1, ixN_5_2, ixN_5_3, ixN_5_4, D.bl.injEq, D.int.injEq, D.lst.injEq, D.tup.injEq, D.str.injEq, Sl.own.injEq, Sl.val.injEq, Option.some.injEq, exists_eq_left', exists_eq_left, exists_eq', exists_eq, or_true, true_or, or_false, false_or, CMul, CPow, natAbs_10, natAbs_2, Int.cast_ofNat_Int, Nat.reducePow, exists_and_left, exists_const, and_assoc, true_and, and_true, and_self, false_and, and_false, if_true, if_false, ite_true, ite_false, reduceCtorEq, decide_true, decide_false, decide_eq_true_eq, decide_eq_false_iff_not, Bool.not_true, Bool.not_false, Bool.false_eq_true, List.replicate_zero, List.replicate_succ, List.map_cons, List.map_nil, List.nil_append, List.cons_append, Nat.reduceSub, Nat.reduceAdd, Nat.reduceLeDiff, Nat.reduceLT, Int.reduceLT, Int.reduceLE, Int.reduceAdd, Int.reduceSub, Int.reduceMul, Int.reduceNeg, Int.reduceMod, Int.reduceDiv, Int.reducePow, Int.reduceToNat, okD_int, okD_bl, okD_lst, okD_tup, okD_non, okL_nil, okL_cons, okD_str, okL_int, eqD_int, eqD_bl, eqD_str, eqD_tup, eqD_lst, eqL_cons, eqL_nil, eqL_cn, eqL_nc, eqL_int, Bool.and_eq_true, Bool.or_eq_true, Bool.not_eq_true', Bool.and_false, Bool.false_and, Bool.or_false, Bool.false_or, Bool.or_true, Bool.true_or, Bool.and_true, Bool.true_and, Bool.and_self, wIsT2, wDct0, wLstOf, wRepF, wAsgH, DV.hN, hIx, hCons, hNil, hTup, wLM, gCnt, gIdx, gList, gSorted, wAppPop, wRaise0, wRaise1, wTry, wIsE, wAct, wFl, flD, okD_bl, hab]
            refine ⟨.inl ⟨by omega, by omega⟩, by omega, ?_⟩
            by_cases hz : (a - b) * w % m = 0
            · simp only [wSeq, wAsg, wOwn, wF, wLc, wSkip, wBrk, wCnt, wRet, wRetF, wRetN, wDrop, wIfS, wPar, wFor, wWh, wV, wApp, wExt, wSetIx, wAug, wVal, wLook, wC, wOp, wTst, wChain, wAnd, wOr, wNot, wAndV, wOrV, wNotV, wIf, wNil, wCons, wTup, wLst, wCall, wCB, wIsT, wiR1, wiR2, wiSq, wiEn, wiZip, gN, gT1, gT2, gT3, gT4, gT5, gT6, gT7, wYes, gAdd, DV.gSub, gMul, gMod, gDiv, gPow, gLt, gLe, gGt, gGe, gCmp, gEq, gNe, gIs, gIsN, DV.isNon, gIn, gNotIn, gIx, gSlc, wSlc, wNoP, wPart, gLen, gAbs, gInt, gMin2, gMax2, gAll, gAny, gSum, gTuple, wNeg, wRev, itemsOf, D.isTy, D.isHand, Sl.toD, big_0, big_1, big_2, big_3, big_4, big_5, big_6, big_7, big_8, big_9, big_10, big_11, big_12, draw_iff, own_ex, val_ex, wipeE, restE, Sl.keep, Option.getD_some, get_z, get_s, set_z, set_s, List.length_cons, List.length_nil, atI_0, atI_1, atI_2, atI_3, atI_4, ixN_5_0, ixN_5_1, ixN_5_2, ixN_5_3, ixN_5_4, D.bl.injEq, D.int.injEq, D.lst.injEq, D.tup.injEq, D.str.injEq, Sl.own.injEq, Sl.val.injEq, Option.some.injEq, exists_eq_left', exists_eq_left, exists_eq', exists_eq, or_true, true_or, or_false, false_or, CMul, CPow, natAbs_10, natAbs_2, Int.cast_ofNat_Int, Nat.reducePow, exists_and_left, exists_const, and_assoc, true_and, and_true, and_self, false_and, and_false, if_true, if_false, ite_true, ite_false, reduceCtorEq, decide_true, decide_false, decide_eq_true_eq, decide_eq_false_iff_not, Bool.not_true, Bool.not_false, Bool.false_eq_true, List.replicate_zero, List.replicate_succ, List.map_cons, List.map_nil, List.nil_append, List.cons_append, Nat.reduceSub, Nat.reduceAdd, Nat.reduceLeDiff, Nat.reduceLT, Int.reduceLT, Int.reduceLE, Int.reduceAdd, Int.reduceSub, Int.reduceMul, Int.reduceNeg, Int.reduceMod, Int.reduceDiv, Int.reducePow, Int.reduceToNat, okD_int, okD_bl, okD_lst, okD_tup, okD_non, okL_nil, okL_cons, okD_str, okL_int, eqD_int, eqD_bl, eqD_str, eqD_tup, eqD_lst, eqL_cons, eqL_nil, eqL_cn, eqL_nc, eqL_int, Bool.and_eq_true, Bool.or_eq_true, Bool.not_eq_true', Bool.and_false, Bool.false_and, Bool.or_false, Bool.false_or, Bool.or_true, Bool.true_or, Bool.and_true, Bool.true_and, Bool.and_self, wIsT2, wDct0, wLstOf, wRepF, wAsgH, DV.hN, hIx, hCons, hNil, hTup, wLM, gCnt, gIdx, gList, gSorted, wAppPop, wRaise0, wRaise1, wTry, wIsE, wAct, wFl, flD, okD_bl, hz]
              refine hP1'' _ ?_ _
              unfold fB hit
              simp [hab, hz]
            · simp only [wSeq, wAsg, wOwn, wF, wLc, wSkip, wBrk, wCnt, wRet, wRetF, wRetN, wDrop, wIfS, wPar, wFor, wWh, wV, wApp, wExt, wSetIx, wAug, wVal, wLook, wC, wOp, wTst, wChain, wAnd, wOr, wNot, wAndV, wOrV, wNotV, wIf, wNil, wCons, wTup, wLst, wCall, wCB, wIsT, wiR1, wiR2, wiSq, wiEn, wiZip, gN, gT1, gT2, gT3, gT4, gT5, gT6, gT7, wYes, gAdd, DV.gSub, gMul, gMod, gDiv, gPow, gLt, gLe, gGt, gGe, gCmp, gEq, gNe, gIs, gIsN, DV.isNon, gIn, gNotIn, gIx, gSlc, wSlc, wNoP, wPart, gLen, gAbs, gInt, gMin2, gMax2, gAll, gAny, gSum, gTuple, wNeg, wRev, itemsOf, D.isTy, D.isHand, Sl.toD, big_0, big_1, big_2, big_3, big_4, big_5, big_6, big_7, big_8, big_9, big_10, big_11, big_12, draw_iff, own_ex, val_ex, wipeE, restE, Sl.keep, Option.getD_some, get_z, get_s, set_z, set_s, List.length_cons, List.length_nil, atI_0, atI_1, atI_2, atI_3, atI_4, ixN_5_0, ixN_5_1, ixN_5_2, ixN_5_3, ixN_5_4, D.bl.injEq, D.int.injEq, D.lst.injEq, D.tup.injEq, D.str.injEq, Sl.own.injEq, Sl.val.injEq, Option.some.injEq, exists_eq_left', exists_eq_left, exists_eq', exists_eq, or_true, true_or, or_false, false_or, CMul, CPow, natAbs_10, natAbs_2, Int.cast_ofNat_Int, Nat.reducePow, exists_and_left, exists_const, and_assoc, true_and, and_true, and_self, false_and, and_false, if_true, if_false, ite_true, ite_false, reduceCtorEq, decide_true, decide_false, decide_eq_true_eq, decide_eq_false_iff_not, Bool.not_true, Bool.not_false, Bool.false_eq_true, List.replicate_zero, List.replicate_succ, List.map_cons, List.map_nil, List.nil_append, List.cons_append, Nat.reduceSub, Nat.reduceAdd, Nat.reduceLeDiff, Nat.reduceLT, Int.reduceLT, Int.reduceLE, Int.reduceAdd, Int.reduceSub, Int.reduceMul, Int.reduceNeg, Int.reduceMod, Int.reduceDiv, Int.reducePow, Int.reduceToNat, okD_int, okD_bl, okD_lst, okD_tup, okD_non, okL_nil, okL_cons, okD_str, okL_int, eqD_int, eqD_bl, eqD_str, eqD_tup, eqD_lst, eqL_cons, eqL_nil, eqL_cn, eqL_nc, eqL_int, Bool.and_eq_true, Bool.or_eq_true, Bool.not_eq_true', Bool.and_false, Bool.false_and, Bool.or_false, Bool.false_or, Bool.or_true, Bool.true_or, Bool.and_true, Bool.true_and, Bool.and_self, wIsT2, wDct0, wLstOf, wRepF, wAsgH, DV.hN, hIx, hCons, hNil, hTup, wLM, gCnt, gIdx, gList, gSorted, wAppPop, wRaise0, wRaise1, wTry, wIsE, wAct, wFl, flD, okD_bl, hz]
              refine hP2'' ?_ _ ⟨_, rfl⟩
              unfold fB hit
              simp [hab, hz]
  unfold T__law_least wFn B__law_least
  rcases hr with rfl | rfl <;> (try simp only [wSeq, wAsg, wOwn, wF, wLc, wSkip, wBrk, wCnt, wRet, wRetF, wRetN, wDrop, wIfS, wPar, wFor, wWh, wV, wApp, wExt, wSetIx, wAug, wVal, wLook, wC, wOp, wTst, wChain, wAnd, wOr, wNot, wAndV, wOrV, wNotV, wIf, wNil, wCons, wTup, wLst, wCall, wCB, wIsT, wiR1, wiR2, wiSq, wiEn, wiZip, gN, gT1, gT2, gT3, gT4, gT5, gT6, gT7, wYes, gAdd, DV.gSub, gMul, gMod, gDiv, gPow, gLt, gLe, gGt, gGe, gCmp, gEq, gNe, gIs, gIsN, DV.isNon, gIn, gNotIn, gIx, gSlc, wSlc, wNoP, wPart, gLen, gAbs, gInt, gMin2, gMax2, gAll, gAny, gSum, gTuple, wNeg, wRev, itemsOf, D.isTy, D.isHand, Sl.toD, big_0, big_1, big_2, big_3, big_4, big_5, big_6, big_7, big_8, big_9, big_10, big_11, big_12, draw_iff, own_ex, val_ex, wipeE, restE, Sl.keep, Option.getD_some, get_z, get_s, set_z, set_s, List.length_cons, List.length_nil, atI_0, atI_1, atI_2, atI_3, atI_4, ixN_5_0, ixN_5_1, ixN_5_2, ixN_5_3, ixN_5_4, D.bl.injEq, D.int.injEq, D.lst.injEq, D.tup.injEq, D.str.injEq, Sl.own.injEq, Sl.val.injEq, Option.some.injEq, exists_eq_left', exists_eq_left, exists_eq', exists_eq, or_true, true_or, or_false, false_or, CMul, CPow, natAbs_10, natAbs_2, Int.cast_ofNat_Int, Nat.reducePow, exists_and_left, exists_const, and_assoc, true_and, and_true, and_self, false_and, and_false, if_true, if_false, ite_true, ite_false, reduceCtorEq, decide_true, decide_false, decide_eq_true_eq, decide_eq_false_iff_not, Bool.not_true, Bool.not_false, Bool.false_eq_true, List.replicate_zero, List.replicate_succ, List.map_cons, List.map_nil, List.nil_append, List.cons_append, Nat.reduceSub, Nat.reduceAdd, Nat.reduceLeDiff, Nat.reduceLT, Int.reduceLT, Int.reduceLE, Int.reduceAdd, Int.reduceSub, Int.reduceMul, Int.reduceNeg, Int.reduceMod, Int.reduceDiv, Int.reducePow, Int.reduceToNat, okD_int, okD_bl, okD_lst, okD_tup, okD_non, okL_nil, okL_cons, okD_str, okL_int, eqD_int, eqD_bl, eqD_str, eqD_tup, eqD_lst, eqL_cons, eqL_nil, eqL_cn, eqL_nc, eqL_int, Bool.and_eq_true, Bool.or_eq_true, Bool.not_eq_true', Bool.and_false, Bool.false_and, Bool.or_false, Bool.false_or, Bool.or_true, Bool.true_or, Bool.and_true, Bool.true_and, Bool.and_self, wIsT2, wDct0, wLstOf, wRepF, wAsgH, DV.hN, hIx, hCons, hNil, hTup, wLM, gCnt, gIdx, gList, gSorted, wAppPop, wRaise0, wRaise1, wTry, wIsE, wAct, wFl, flD, okD_bl]) <;> exact main
end
section
variable {Q : D → Prop} {E : Er → Prop} {m : Int}
theorem sp_is_unseen {x : Int} (hm : 0 < m) : T_is_unseen [.int m, .int x] Q E ↔ Q (.bl (decide (x % m = 0))) := by
  unfold T_is_unseen wFn B_is_unseen
  simp only [wSeq, wAsg, wOwn, wF, wLc, wSkip, wBrk, wCnt, wRet, wRetF, wRetN, wDrop, wIfS, wPar, wFor, wWh, wV, wApp, wExt, wSetIx, wAug, wVal, wLook, wC, wOp, wTst, wChain, wAnd, wOr, wNot, wAndV, wOrV, wNotV, wIf, wNil, wCons, wTup, wLst, wCall, wCB, wIsT, wiR1, wiR2, wiSq, wiEn, wiZip, gN, gT1, gT2, gT3, gT4, gT5, gT6, gT7, wYes, gAdd, DV.gSub, gMul, gMod, gDiv, gPow, gLt, gLe, gGt, gGe, gCmp, gEq, gNe, gIs, gIsN, DV.isNon, gIn, gNotIn, gIx, gSlc, wSlc, wNoP, wPart, gLen, gAbs, gInt, gMin2, gMax2, gAll, gAny, gSum, gTuple, wNeg, wRev, itemsOf, D.isTy, D.isHand, Sl.toD, big_0, big_1, big_2, big_3, big_4, big_5, big_6, big_7, big_8, big_9, big_10, big_11, big_12, draw_iff, own_ex, val_ex, wipeE, restE, Sl.keep, Option.getD_some, get_z, get_s, set_z, set_s, List.length_cons, List.length_nil, atI_0, atI_1, atI_2, atI_3, atI_4, ixN_5_0, ixN_5_1, ixN_5_2, ixN_5_3, ixN_5_4, D.bl.injEq, D.int.injEq, D.lst.injEq, D.tup.injEq, D.str.injEq, Sl.own.injEq, Sl.val.injEq, Option.some.injEq, exists_eq_left', exists_eq_left, exists_eq', exists_eq, or_true, true_or, or_false, false_or, CMul, CPow, natAbs_10, natAbs_2, Int.cast_ofNat_Int, Nat.reducePow, exists_and_left, exists_const, and_assoc, true_and, and_true, and_self, false_and, and_false, if_true, if_false, ite_true, ite_false, reduceCtorEq, decide_true, decide_false, decide_eq_true_eq, decide_eq_false_iff_not, Bool.not_true, Bool.not_false, Bool.false_eq_true, List.replicate_zero, List.replicate_succ, List.map_cons, List.map_nil, List.nil_append, List.cons_append, Nat.reduceSub, Nat.reduceAdd, Nat.reduceLeDiff, Nat.reduceLT, Int.reduceLT, Int.reduceLE, Int.reduceAdd, Int.reduceSub, Int.reduceMul, Int.reduceNeg, Int.reduceMod, Int.reduceDiv, Int.reducePow, Int.reduceToNat, okD_int, okD_bl, okD_lst, okD_tup, okD_non, okL_nil, okL_cons, okD_str, okL_int, eqD_int, eqD_bl, eqD_str, eqD_tup, eqD_lst, eqL_cons, eqL_nil, eqL_cn, eqL_nc, eqL_int, Bool.and_eq_true, Bool.or_eq_true, Bool.not_eq_true', Bool.and_false, Bool.false_and, Bool.or_false, Bool.false_or, Bool.or_true, Bool.true_or, Bool.and_true, Bool.true_and, Bool.and_self, wIsT2, wDct0, wLstOf, wRepF, wAsgH, DV.hN, hIx, hCons, hNil, hTup, wLM, gCnt, gIdx, gList, gSorted, wAppPop, wRaise0, wRaise1, wTry, wIsE, wAct, wFl, flD, okD_bl, hm]
end
end Law

set_option Elab.async false
set_option linter.all false
set_option maxRecDepth 100000
namespace Law
open PySem PySem.Spec PyProof.Rows L2 DV
def sizedT (x : D) (lo hi : Int) : Bool := match x with
  | .tup xs => decide (lo ≤ xs.length) && decide ((xs.length : Int) ≤ hi)
  | _ => false
def okW (m : Int) (x : D) : Bool := sizedT x 1 24 && (match x with
  | .tup xs => xs.all fun d => within d 0 (m - 1)
  | _ => false)
theorem toBs_of (f : D → Bool) (xs : List D) : toBs (xs.map fun d => .bl (f d)) = some (xs.map f) := by
  rw [← toBs_map, List.map_map]; rfl
section
variable {Q : D → Prop} {E : Er → Prop} {s m : Int}
theorem sp_is_sized {x : D} {lo hi : Int} (h : x.isHand = false) : T_is_sized [x, .int lo, .int hi] Q E ↔ Q (.bl (sizedT x lo hi)) := by
  unfold T_is_sized wFn B_is_sized
  cases x with
  | tup xs =>
    simp only [wSeq, wAsg, wOwn, wF, wLc, wSkip, wBrk, wCnt, wRet, wRetF, wRetN, wDrop, wIfS, wPar, wFor, wWh, wV, wApp, wExt, wSetIx, wAug, wVal, wLook, wC, wOp, wTst, wChain, wAnd, wOr, wNot, wAndV, wOrV, wNotV, wIf, wNil, wCons, wTup, wLst, wCall, wCB, wIsT, wiR1, wiR2, wiSq, wiEn, wiZip, gN, gT1, gT2, gT3, gT4, gT5, gT6, gT7, wYes, gAdd, DV.gSub, gMul, gMod, gDiv, gPow, gLt, gLe, gGt, gGe, gCmp, gEq, gNe, gIs, gIsN, DV.isNon, gIn, gNotIn, gIx, gSlc, wSlc, wNoP, wPart, gLen, gAbs, gInt, gMin2, gMax2, gAll, gAny, gSum, gTuple, wNeg, wRev, itemsOf, D.isTy, D.isHand, Sl.toD, big_0, big_1, big_2, big_3, big_4, big_5, big_6, big_7, big_8, big_9, big_10, big_11, big_12, draw_iff, own_ex, val_ex, wipeE, restE, Sl.keep, Option.getD_some, get_z, get_s, set_z, set_s, List.length_cons, List.length_nil, atI_0, atI_1, atI_2, atI_3, atI_4, ixN_5_0, ixN_5_1, ixN_5_2, ixN_5_3, ixN_5_4, D.bl.injEq, D.int.injEq, D.lst.injEq, D.tup.injEq, D.str.injEq, Sl.own.injEq, Sl.val.injEq, Option.some.injEq, exists_eq_left', exists_eq_left, exists_eq', exists_eq, or_true, true_or, or_false, false_or, CMul, CPow, natAbs_10, natAbs_2, Int.cast_ofNat_Int, Nat.reducePow, exists_and_left, exists_const, and_assoc, true_and, and_true, and_self, false_and, and_false, if_true, if_false, ite_true, ite_false, reduceCtorEq, decide_true, decide_false, decide_eq_true_eq, decide_eq_false_iff_not, Bool.not_true, Bool.not_false, Bool.false_eq_true, List.replicate_zero, List.replicate_succ, List.map_cons, List.map_nil, List.nil_append, List.cons_append, Nat.reduceSub, Nat.reduceAdd, Nat.reduceLeDiff, Nat.reduceLT, Int.reduceLT, Int.reduceLE, Int.reduceAdd, Int.reduceSub, Int.reduceMul, Int.reduceNeg, Int.reduceMod, Int.reduceDiv, Int.reducePow, Int.reduceToNat, okD_int, okD_bl, okD_lst, okD_tup, okD_non, okL_nil, okL_cons, okD_str, okL_int, eqD_int, eqD_bl, eqD_str, eqD_tup, eqD_lst, eqL_cons, eqL_nil, eqL_cn, eqL_nc, eqL_int, Bool.and_eq_true, Bool.or_eq_true, Bool.not_eq_true', Bool.and_false, Bool.false_and, Bool.or_false, Bool.false_or, Bool.or_true, Bool.true_or, Bool.and_true, Bool.true_and, Bool.and_self, wIsT2, wDct0, wLstOf, wRepF, wAsgH, DV.hN, hIx, hCons, hNil, hTup, wLM, gCnt, gIdx, gList, gSorted, wAppPop, wRaise0, wRaise1, wTry, wIsE, wAct, wFl, flD, okD_bl, sizedT]
    by_cases h1 : lo ≤ (xs.length : Int) <;> simp [h1]
  | _ => first | (cases h; done) | simp only [wSeq, wAsg, wOwn, wF, wLc, wSkip, wBrk, wCnt, wRet, wRetF, wRetN, wDrop, wIfS, wPar, wFor, wWh, wV, wApp, wExt, wSetIx, wAug, wVal, wLook, wC, wOp, wTst, wChain, wAnd, wOr, wNot, wAndV, wOrV, wNotV, wIf, wNil, wCons, wTup, wLst, wCall, wCB, wIsT, wiR1, wiR2, wiSq, wiEn, wiZip, gN, gT1, gT2, gT3, gT4, gT5, gT6, gT7, wYes, gAdd, DV.gSub, gMul, gMod, gDiv, gPow, gLt, gLe, gGt, gGe, gCmp, gEq, gNe, gIs, gIsN, DV.isNon, gIn, gNotIn, gIx, gSlc, wSlc, wNoP, wPart, gLen, gAbs, gInt, gMin2, gMax2, gAll, gAny, gSum, gTuple, wNeg, wRev, itemsOf, D.isTy, D.isHand, Sl.toD, big_0, big_1, big_2, big_3, big_4, big_5, big_6, big_7, big_8, big_9, big_10, big_11, big_12, draw_iff, own_ex, val_ex, wipeE, restE, Sl.keep, Option.getD_some, get_z, get_s, set_z, set_s, List.length_cons, List.length_nil, atI_0, atI_1, atI_2, atI_3, atI_4, ixN_5_0, ixN_5_1, ixN_5_2, ixN_5_3, ixN_5_4, D.bl.injEq, D.int.injEq, D.lst.injEq, D.tup.injEq, D.str.injEq, Sl.own.injEq, Sl.val.injEq, Option.some.injEq, exists_eq_left', exists_eq_left, exists_eq', exists_eq, or_true, true_or, or_false, false_or, CMul, CPow, natAbs_10, natAbs_2, Int.cast_ofNat_Int, Nat.reducePow, exists_and_left, exists_const, and_assoc, true_and, and_true, and_self, false_and, and_false, if_true, if_false, ite_true, ite_false, reduceCtorEq, decide_true, decide_false, decide_eq_true_eq, decide_eq_false_iff_not, Bool.not_true, Bool.not_false, Bool.false_eq_true, List.replicate_zero, List.replicate_succ, List.map_cons, List.map_nil, List.nil_append, List.cons_append, Nat.reduceSub, Nat.reduceAdd, Nat.reduceLeDiff, Nat.reduceLT, Int.reduceLT, Int.reduceLE, Int.reduceAdd, Int.reduceSub, Int.reduceMul, Int.reduceNeg, Int.reduceMod, Int.reduceDiv, Int.reducePow, Int.reduceToNat, okD_int, okD_bl, okD_lst, okD_tup, okD_non, okL_nil, okL_cons, okD_str, okL_int, eqD_int, eqD_bl, eqD_str, eqD_tup, eqD_lst, eqL_cons, eqL_nil, eqL_cn, eqL_nc, eqL_int, Bool.and_eq_true, Bool.or_eq_true, Bool.not_eq_true', Bool.and_false, Bool.false_and, Bool.or_false, Bool.false_or, Bool.or_true, Bool.true_or, Bool.and_true, Bool.true_and, Bool.and_self, wIsT2, wDct0, wLstOf, wRepF, wAsgH, DV.hN, hIx, hCons, hNil, hTup, wLM, gCnt, gIdx, gList, gSorted, wAppPop, wRaise0, wRaise1, wTry, wIsE, wAct, wFl, flD, okD_bl, sizedT]
theorem sp_cw (c : Sm s m) {x : D} (h : x.isHand = false) (h2 : ∀ xs, x = .tup xs → ∀ d ∈ xs, d.isHand = false) (hq : okW m x = true → Q .non) (he : okW m x = false → E ("NoWeights", [])) : T_check_weights [.int s, .int m, x] Q E := by
  obtain ⟨s1, s2, m1, m2⟩ := c
  have w1 : within (.int s) 2 36 = true := by unfold within; simp; omega
  have w2 : within (.int m) 2 200 = true := by unfold within; simp; omega
  unfold T_check_weights wFn B_check_weights
  simp only [wSeq, wAsg, wOwn, wF, wLc, wSkip, wBrk, wCnt, wRet, wRetF, wRetN, wDrop, wIfS, wPar, wFor, wWh, wV, wApp, wExt, wSetIx, wAug, wVal, wLook, wC, wOp, wTst, wChain, wAnd, wOr, wNot, wAndV, wOrV, wNotV, wIf, wNil, wCons, wTup, wLst, wCall, wCB, wIsT, wiR1, wiR2, wiSq, wiEn, wiZip, gN, gT1, gT2, gT3, gT4, gT5, gT6, gT7, wYes, gAdd, DV.gSub, gMul, gMod, gDiv, gPow, gLt, gLe, gGt, gGe, gCmp, gEq, gNe, gIs, gIsN, DV.isNon, gIn, gNotIn, gIx, gSlc, wSlc, wNoP, wPart, gLen, gAbs, gInt, gMin2, gMax2, gAll, gAny, gSum, gTuple, wNeg, wRev, itemsOf, D.isTy, D.isHand, Sl.toD, big_0, big_1, big_2, big_3, big_4, big_5, big_6, big_7, big_8, big_9, big_10, big_11, big_12, draw_iff, own_ex, val_ex, wipeE, restE, Sl.keep, Option.getD_some, get_z, get_s, set_z, set_s, List.length_cons, List.length_nil, atI_0, atI_1, atI_2, atI_3, atI_4, ixN_5_0, ixN_5_1, ixN_5_2, ixN_5_3, ixN_5_4, D.bl.injEq, D.int.injEq, D.lst.injEq, D.tup.injEq, D.str.injEq, Sl.own.injEq, Sl.val.injEq, Option.some.injEq, exists_eq_left', exists_eq_left, exists_eq', exists_eq, or_true, true_or, or_false, false_or, CMul, CPow, natAbs_10, natAbs_2, Int.cast_ofNat_Int, Nat.reducePow, exists_and_left, exists_const, and_assoc, true_and, and_true, and_self, false_and, and_false, if_true, if_false, ite_true, ite_false, reduceCtorEq, decide_true, decide_false, decide_eq_true_eq, decide_eq_false_iff_not, Bool.not_true, Bool.not_false, Bool.false_eq_true, List.replicate_zero, List.replicate_succ, List.map_cons, List.map_nil, List.nil_append, List.cons_append, Nat.reduceSub, Nat.reduceAdd, Nat.reduceLeDiff, Nat.reduceLT, Int.reduceLT, Int.reduceLE, Int.reduceAdd, Int.reduceSub, Int.reduceMul, Int.reduceNeg, Int.reduceMod, Int.reduceDiv, Int.reducePow, Int.reduceToNat, okD_int, okD_bl, okD_lst, okD_tup, okD_non, okL_nil, okL_cons, okD_str, okL_int, eqD_int, eqD_bl, eqD_str, eqD_tup, eqD_lst, eqL_cons, eqL_nil, eqL_cn, eqL_nc, eqL_int, Bool.and_eq_true, Bool.or_eq_true, Bool.not_eq_true', Bool.and_false, Bool.false_and, Bool.or_false, Bool.false_or, Bool.or_true, Bool.true_or, Bool.and_true, Bool.true_and, Bool.and_self, wIsT2, wDct0, wLstOf, wRepF, wAsgH, DV.hN, hIx, hCons, hNil, hTup, wLM, gCnt, gIdx, gList, gSorted, wAppPop, wRaise0, wRaise1, wTry, wIsE, wAct, wFl, flD, okD_bl, sp_check_number (x := .int s) rfl, w1]
  unfold B_check_weights_2
  simp only [wSeq, wAsg, wOwn, wF, wLc, wSkip, wBrk, wCnt, wRet, wRetF, wRetN, wDrop, wIfS, wPar, wFor, wWh, wV, wApp, wExt, wSetIx, wAug, wVal, wLook, wC, wOp, wTst, wChain, wAnd, wOr, wNot, wAndV, wOrV, wNotV, wIf, wNil, wCons, wTup, wLst, wCall, wCB, wIsT, wiR1, wiR2, wiSq, wiEn, wiZip, gN, gT1, gT2, gT3, gT4, gT5, gT6, gT7, wYes, gAdd, DV.gSub, gMul, gMod, gDiv, gPow, gLt, gLe, gGt, gGe, gCmp, gEq, gNe, gIs, gIsN, DV.isNon, gIn, gNotIn, gIx, gSlc, wSlc, wNoP, wPart, gLen, gAbs, gInt, gMin2, gMax2, gAll, gAny, gSum, gTuple, wNeg, wRev, itemsOf, D.isTy, D.isHand, Sl.toD, big_0, big_1, big_2, big_3, big_4, big_5, big_6, big_7, big_8, big_9, big_10, big_11, big_12, draw_iff, own_ex, val_ex, wipeE, restE, Sl.keep, Option.getD_some, get_z, get_s, set_z, set_s, List.length_cons, List.length_nil, atI_0, atI_1, atI_2, atI_3, atI_4, ixN_5_0, ixN_5_1, ixN_5_2, ixN_5_3, ixN_5_4, D.bl.injEq, D.int.injEq, D.lst.injEq, D.tup.injEq, D.str.injEq, Sl.own.injEq, Sl.val.injEq, Option.some.injEq, exists_eq_left', exists_eq_left, exists_eq', exists_eq, or_true, true_or, or_false, false_or, CMul, CPow, natAbs_10, natAbs_2, Int.cast_ofNat_Int, Nat.reducePow, exists_and_left, exists_const, and_assoc, true_and, and_true, and_self, false_and, and_false, if_true, if_false, ite_true, ite_false, reduceCtorEq, decide_true, decide_false, decide_eq_true_eq, decide_eq_false_iff_not, Bool.not_true, Bool.not_false, Bool.false_eq_true, List.replicate_zero, List.replicate_succ, List.map_cons, List.map_nil, List.nil_append, List.cons_append, Nat.reduceSub, Nat.reduceAdd, Nat.reduceLeDiff, Nat.reduceLT, Int.reduceLT, Int.reduceLE, Int.reduceAdd, Int.reduceSub, Int.reduceMul, Int.reduceNeg, Int.reduceMod, Int.reduceDiv, Int.reducePow, Int.reduceToNat, okD_int, okD_bl, okD_lst, okD_tup, okD_non, okL_nil, okL_cons, okD_str, okL_int, eqD_int, eqD_bl, eqD_str, eqD_tup, eqD_lst, eqL_cons, eqL_nil, eqL_cn, eqL_nc, eqL_int, Bool.and_eq_true, Bool.or_eq_true, Bool.not_eq_true', Bool.and_false, Bool.false_and, Bool.or_false, Bool.false_or, Bool.or_true, Bool.true_or, Bool.and_true, Bool.true_and, Bool.and_self, wIsT2, wDct0, wLstOf, wRepF, wAsgH, DV.hN, hIx, hCons, hNil, hTup, wLM, gCnt, gIdx, gList, gSorted, wAppPop, wRaise0, wRaise1, wTry, wIsE, wAct, wFl, flD, okD_bl, sp_check_number (x := .int m) rfl, w2]
  unfold B_check_weights_3
  simp only [wSeq, wAsg, wOwn, wF, wLc, wSkip, wBrk, wCnt, wRet, wRetF, wRetN, wDrop, wIfS, wPar, wFor, wWh, wV, wApp, wExt, wSetIx, wAug, wVal, wLook, wC, wOp, wTst, wChain, wAnd, wOr, wNot, wAndV, wOrV, wNotV, wIf, wNil, wCons, wTup, wLst, wCall, wCB, wIsT, wiR1, wiR2, wiSq, wiEn, wiZip, gN, gT1, gT2, gT3, gT4, gT5, gT6, gT7, wYes, gAdd, DV.gSub, gMul, gMod, gDiv, gPow, gLt, gLe, gGt, gGe, gCmp, gEq, gNe, gIs, gIsN, DV.isNon, gIn, gNotIn, gIx, gSlc, wSlc, wNoP, wPart, gLen, gAbs, gInt, gMin2, gMax2, gAll, gAny, gSum, gTuple, wNeg, wRev, itemsOf, D.isTy, D.isHand, Sl.toD, big_0, big_1, big_2, big_3, big_4, big_5, big_6, big_7, big_8, big_9, big_10, big_11, big_12, draw_iff, own_ex, val_ex, wipeE, restE, Sl.keep, Option.getD_some, get_z, get_s, set_z, set_s, List.length_cons, List.length_nil, atI_0, atI_1, atI_2, atI_3, atI_4, ixN_5_0, ixN_5_1, ixN_5_2, ixN_5_3, ixN_5_4, D.bl.injEq, D.int.injEq, D.lst.injEq, D.tup.injEq, D.str.injEq, Sl.own.injEq, Sl.val.injEq, Option.some.injEq, exists_eq_left', exists_eq_left, exists_eq', exists_eq, or_true, true_or, or_false, false_or, CMul, CPow, natAbs_10, natAbs_2, Int.cast_ofNat_Int, Nat.reducePow, exists_and_left, exists_const, and_assoc, true_and, and_true, and_self, false_and, and_false, if_true, if_false, ite_true, ite_false, reduceCtorEq, decide_true, decide_false, decide_eq_true_eq, decide_eq_false_iff_not, Bool.not_true, Bool.not_false, Bool.false_eq_true, List.replicate_zero, List.replicate_succ, List.map_cons, List.map_nil, List.nil_append, List.cons_append, Nat.reduceSub, Nat.reduceAdd, Nat.reduceLeDiff, Nat.reduceLT, Int.reduceLT, Int.reduceLE, Int.reduceAdd, Int.reduceSub, Int.reduceMul, Int.reduceNeg, Int.reduceMod, Int.reduceDiv, Int.reducePow, Int.reduceToNat, okD_int, okD_bl, okD_lst, okD_tup, okD_non, okL_nil, okL_cons, okD_str, okL_int, eqD_int, eqD_bl, eqD_str, eqD_tup, eqD_lst, eqL_cons, eqL_nil, eqL_cn, eqL_nc, eqL_int, Bool.and_eq_true, Bool.or_eq_true, Bool.not_eq_true', Bool.and_false, Bool.false_and, Bool.or_false, Bool.false_or, Bool.or_true, Bool.true_or, Bool.and_true, Bool.true_and, Bool.and_self, wIsT2, wDct0, wLstOf, wRepF, wAsgH, DV.hN, hIx, hCons, hNil, hTup, wLM, gCnt, gIdx, gList, gSorted, wAppPop, wRaise0, wRaise1, wTry, wIsE, wAct, wFl, flD, okD_bl, sp_is_sized h]
  unfold okW at hq he
  by_cases hs : sizedT x 1 24 = true
  · simp only [wSeq, wAsg, wOwn, wF, wLc, wSkip, wBrk, wCnt, wRet, wRetF, wRetN, wDrop, wIfS, wPar, wFor, wWh, wV, wApp, wExt, wSetIx, wAug, wVal, wLook, wC, wOp, wTst, wChain, wAnd, wOr, wNot, wAndV, wOrV, wNotV, wIf, wNil, wCons, wTup, wLst, wCall, wCB, wIsT, wiR1, wiR2, wiSq, wiEn, wiZip, gN, gT1, gT2, gT3, gT4, gT5, gT6, gT7, wYes, gAdd, DV.gSub, gMul, gMod, gDiv, gPow, gLt, gLe, gGt, gGe, gCmp, gEq, gNe, gIs, gIsN, DV.isNon, gIn, gNotIn, gIx, gSlc, wSlc, wNoP, wPart, gLen, gAbs, gInt, gMin2, gMax2, gAll, gAny, gSum, gTuple, wNeg, wRev, itemsOf, D.isTy, D.isHand, Sl.toD, big_0, big_1, big_2, big_3, big_4, big_5, big_6, big_7, big_8, big_9, big_10, big_11, big_12, draw_iff, own_ex, val_ex, wipeE, restE, Sl.keep, Option.getD_some, get_z, get_s, set_z, set_s, List.length_cons, List.length_nil, atI_0, atI_1, atI_2, atI_3, atI_4, ixN_5_0, ixN_5_1, ixN_5_2, ixN_5_3, ixN_5_4, D.bl.injEq, D.int.injEq, D.lst.injEq, D.tup.injEq, D.str.injEq, Sl.own.injEq, Sl.val.injEq, Option.some.injEq, exists_eq_left', exists_eq_left, exists_eq', exists_eq, or_true, true_or, or_false, false_or, CMul, CPow, natAbs_10, natAbs_2, Int.cast_ofNat_Int, Nat.reducePow, exists_and_left, exists_const, and_assoc, true_and, and_true, and_self, false_and, and_false, if_true, if_false, ite_true, ite_false, reduceCtorEq, decide_true, decide_false, decide_eq_true_eq, decide_eq_false_iff_not, Bool.not_true, Bool.not_false, Bool.false_eq_true, List.replicate_zero, List.replicate_succ, List.map_cons, List.map_nil, List.nil_append, List.cons_append, Nat.reduceSub, Nat.reduceAdd, Nat.reduceLeDiff, Nat.reduceLT, Int.reduceLT, Int.reduceLE, Int.reduceAdd, Int.reduceSub, Int.reduceMul, Int.reduceNeg, Int.reduceMod, Int.reduceDiv, Int.reducePow, Int.reduceToNat, okD_int, okD_bl, okD_lst, okD_tup, okD_non, okL_nil, okL_cons, okD_str, okL_int, eqD_int, eqD_bl, eqD_str, eqD_tup, eqD_lst, eqL_cons, eqL_nil, eqL_cn, eqL_nc, eqL_int, Bool.and_eq_true, Bool.or_eq_true, Bool.not_eq_true', Bool.and_false, Bool.false_and, Bool.or_false, Bool.false_or, Bool.or_true, Bool.true_or, Bool.and_true, Bool.true_and, Bool.and_self, wIsT2, wDct0, wLstOf, wRepF, wAsgH, DV.hN, hIx, hCons, hNil, hTup, wLM, gCnt, gIdx, gList, gSorted, wAppPop, wRaise0, wRaise1, wTry, wIsE, wAct, wFl, flD, okD_bl, hs]
    cases x with
    | tup xs =>
      have hl : 1 ≤ xs.length ∧ xs.length ≤ 24 := by
        unfold sizedT at hs; simp at hs; omega
      (try simp only [wSeq, wAsg, wOwn, wF, wLc, wSkip, wBrk, wCnt, wRet, wRetF, wRetN, wDrop, wIfS, wPar, wFor, wWh, wV, wApp, wExt, wSetIx, wAug, wVal, wLook, wC, wOp, wTst, wChain, wAnd, wOr, wNot, wAndV, wOrV, wNotV, wIf, wNil, wCons, wTup, wLst, wCall, wCB, wIsT, wiR1, wiR2, wiSq, wiEn, wiZip, gN, gT1, gT2, gT3, gT4, gT5, gT6, gT7, wYes, gAdd, DV.gSub, gMul, gMod, gDiv, gPow, gLt, gLe, gGt, gGe, gCmp, gEq, gNe, gIs, gIsN, DV.isNon, gIn, gNotIn, gIx, gSlc, wSlc, wNoP, wPart, gLen, gAbs, gInt, gMin2, gMax2, gAll, gAny, gSum, gTuple, wNeg, wRev, itemsOf, D.isTy, D.isHand, Sl.toD, big_0, big_1, big_2, big_3, big_4, big_5, big_6, big_7, big_8, big_9, big_10, big_11, big_12, draw_iff, own_ex, val_ex, wipeE, restE, Sl.keep, Option.getD_some, get_z, get_s, set_z, set_s, List.length_cons, List.length_nil, atI_0, atI_1, atI_2, atI_3, atI_4, ixN_5_0, ixN_5_1, ixN_5_2, ixN_5_3, ixN_5_4, D.bl.injEq, D.int.injEq, D.lst.injEq, D.tup.injEq, D.str.injEq, Sl.own.injEq, Sl.val.injEq, Option.some.injEq, exists_eq_left', exists_eq_left, exists_eq', exists_eq, or_true, true_or, or_false, false_or, CMul, CPow, natAbs_10, natAbs_2, Int.cast_ofNat_Int, Nat.reducePow, exists_and_left, exists_const, and_assoc, true_and, and_true, and_self, false_and, and_false, if_true, if_false, ite_true, ite_false, reduceCtorEq, decide_true, decide_false, decide_eq_true_eq, decide_eq_false_iff_not, Bool.not_true, Bool.not_false, Bool.false_eq_true, List.replicate_zero, List.replicate_succ, List.map_cons, List.map_nil, List.nil_append, List.cons_append, Nat.reduceSub, Nat.reduceAdd, Nat.reduceLeDiff, Nat.reduceLT, Int.reduceLT, Int.reduceLE, Int.reduceAdd, Int.reduceSub, Int.reduceMul, Int.reduceNeg, Int.reduceMod, Int.reduceDiv, Int.reducePow, Int.reduceToNat, okD_int, okD_bl, okD_lst, okD_tup, okD_non, okL_nil, okL_cons, okD_str, okL_int, eqD_int, eqD_bl, eqD_str, eqD_tup, eqD_lst, eqL_cons, eqL_nil, eqL_cn, eqL_nc, eqL_int, Bool.and_eq_true, Bool.or_eq_true, Bool.not_eq_true', Bool.and_false, Bool.false_and, Bool.or_false, Bool.false_or, Bool.or_true, Bool.true_or, Bool.and_true, Bool.true_and, Bool.and_self, wIsT2, wDct0, wLstOf, wRepF, wAsgH, DV.hN, hIx, hCons, hNil, hTup, wLM, gCnt, gIdx, gList, gSorted, wAppPop, wRaise0, wRaise1, wTry, wIsE, wAct, wFl, flD, okD_bl])
      refine ⟨by unfold big; omega, ?_⟩
      refine lc_map (fun d => .bl (within d 0 (m - 1))) (fun d hd K' hk => ?_) fun _ => ?_
      · simp only [wSeq, wAsg, wOwn, wF, wLc, wSkip, wBrk, wCnt, wRet, wRetF, wRetN, wDrop, wIfS, wPar, wFor, wWh, wV, wApp, wExt, wSetIx, wAug, wVal, wLook, wC, wOp, wTst, wChain, wAnd, wOr, wNot, wAndV, wOrV, wNotV, wIf, wNil, wCons, wTup, wLst, wCall, wCB, wIsT, wiR1, wiR2, wiSq, wiEn, wiZip, gN, gT1, gT2, gT3, gT4, gT5, gT6, gT7, wYes, gAdd, DV.gSub, gMul, gMod, gDiv, gPow, gLt, gLe, gGt, gGe, gCmp, gEq, gNe, gIs, gIsN, DV.isNon, gIn, gNotIn, gIx, gSlc, wSlc, wNoP, wPart, gLen, gAbs, gInt, gMin2, gMax2, gAll, gAny, gSum, gTuple, wNeg, wRev, itemsOf, D.isTy, D.isHand, Sl.toD, big_0, big_1, big_2, big_3, big_4, big_5, big_6, big_7, big_8, big_9, big_10, big_11, big_12, draw_iff, own_ex, val_ex, wipeE, restE, Sl.keep, Option.getD_some, get_z, get_s, set_z, set_s, List.length_cons, List.length_nil, atI_0, atI_1, atI_2, atI_3, atI_4, ixN_5_0, ixN_5_1, ixN_5_2, ixN_5_3, ixN_5_4, D.bl.injEq, D.int.injEq, D.lst.injEq, D.tup.injEq, D.str.injEq, Sl.own.injEq, Sl.val.injEq, Option.some.injEq, exists_eq_left', exists_eq_left, exists_eq', exists_eq, or_true, true_or, or_false, false_or, CMul, CPow, natAbs_10, natAbs_2, Int.cast_ofNat_Int, Nat.reducePow, exists_and_left, exists_const, and_assoc, true_and, and_true, and_self, false_and, and_false, if_true, if_false, ite_true, ite_false, reduceCtorEq, decide_true, decide_false, decide_eq_true_eq, decide_eq_false_iff_not, Bool.not_true, Bool.not_false, Bool.false_eq_true, List.replicate_zero, List.replicate_succ, List.map_cons, List.map_nil, List.nil_append, List.cons_append, Nat.reduceSub, Nat.reduceAdd, Nat.reduceLeDiff, Nat.reduceLT, Int.reduceLT, Int.reduceLE, Int.reduceAdd, Int.reduceSub, Int.reduceMul, Int.reduceNeg, Int.reduceMod, Int.reduceDiv, Int.reducePow, Int.reduceToNat, okD_int, okD_bl, okD_lst, okD_tup, okD_non, okL_nil, okL_cons, okD_str, okL_int, eqD_int, eqD_bl, eqD_str, eqD_tup, eqD_lst, eqL_cons, eqL_nil, eqL_cn, eqL_nc, eqL_int, Bool.and_eq_true, Bool.or_eq_true, Bool.not_eq_true', Bool.and_false, Bool.false_and, Bool.or_false, Bool.false_or, Bool.or_true, Bool.true_or, Bool.and_true, Bool.true_and, Bool.and_self, wIsT2, wDct0, wLstOf, wRepF, wAsgH, DV.hN, hIx, hCons, hNil, hTup, wLM, gCnt, gIdx, gList, gSorted, wAppPop, wRaise0, wRaise1, wTry, wIsE, wAct, wFl, flD, okD_bl, sp_is_within (h2 _ rfl d hd)]
        exact hk
      · simp only [wSeq, wAsg, wOwn, wF, wLc, wSkip, wBrk, wCnt, wRet, wRetF, wRetN, wDrop, wIfS, wPar, wFor, wWh, wV, wApp, wExt, wSetIx, wAug, wVal, wLook, wC, wOp, wTst, wChain, wAnd, wOr, wNot, wAndV, wOrV, wNotV, wIf, wNil, wCons, wTup, wLst, wCall, wCB, wIsT, wiR1, wiR2, wiSq, wiEn, wiZip, gN, gT1, gT2, gT3, gT4, gT5, gT6, gT7, wYes, gAdd, DV.gSub, gMul, gMod, gDiv, gPow, gLt, gLe, gGt, gGe, gCmp, gEq, gNe, gIs, gIsN, DV.isNon, gIn, gNotIn, gIx, gSlc, wSlc, wNoP, wPart, gLen, gAbs, gInt, gMin2, gMax2, gAll, gAny, gSum, gTuple, wNeg, wRev, itemsOf, D.isTy, D.isHand, Sl.toD, big_0, big_1, big_2, big_3, big_4, big_5, big_6, big_7, big_8, big_9, big_10, big_11, big_12, draw_iff, own_ex, val_ex, wipeE, restE, Sl.keep, Option.getD_some, get_z, get_s, set_z, set_s, List.length_cons, List.length_nil, atI_0, atI_1, atI_2, atI_3, atI_4, ixN_5_0, ixN_5_1, ixN_5_2, ixN_5_3, ixN_5_4, D.bl.injEq, D.int.injEq, D.lst.injEq, D.tup.injEq, D.str.injEq, Sl.own.injEq, Sl.val.injEq, Option.some.injEq, exists_eq_left', exists_eq_left, exists_eq', exists_eq, or_true, true_or, or_false, false_or, CMul, CPow, natAbs_10, natAbs_2, Int.cast_ofNat_Int, Nat.reducePow, exists_and_left, exists_const, and_assoc, true_and, and_true, and_self, false_and, and_false, if_true, if_false, ite_true, ite_false, reduceCtorEq, decide_true, decide_false, decide_eq_true_eq, decide_eq_false_iff_not, Bool.not_true, Bool.not_false, Bool.false_eq_true, List.replicate_zero, List.replicate_succ, List.map_cons, List.map_nil, List.nil_append, List.cons_append, Nat.reduceSub, Nat.reduceAdd, Nat.reduceLeDiff, Nat.reduceLT, Int.reduceLT, Int.reduceLE, Int.reduceAdd, Int.reduceSub, Int.reduceMul, Int.reduceNeg, Int.reduceMod, Int.reduceDiv, Int.reducePow, Int.reduceToNat, okD_int, okD_bl, okD_lst, okD_tup, okD_non, okL_nil, okL_cons, okD_str, okL_int, eqD_int, eqD_bl, eqD_str, eqD_tup, eqD_lst, eqL_cons, eqL_nil, eqL_cn, eqL_nc, eqL_int, Bool.and_eq_true, Bool.or_eq_true, Bool.not_eq_true', Bool.and_false, Bool.false_and, Bool.or_false, Bool.false_or, Bool.or_true, Bool.true_or, Bool.and_true, Bool.true_and, Bool.and_self, wIsT2, wDct0, wLstOf, wRepF, wAsgH, DV.hN, hIx, hCons, hNil, hTup, wLM, gCnt, gIdx, gList, gSorted, wAppPop, wRaise0, wRaise1, wTry, wIsE, wAct, wFl, flD, okD_bl, toBs_of]
        rw [hs, Bool.true_and] at hq he
        rw [List.all_map] 
        cases ha : xs.all (id ∘ fun d => within d 0 (m - 1)) with
        | true => (try simp only [wSeq, wAsg, wOwn, wF, wLc, wSkip, wBrk, wCnt, wRet, wRetF, wRetN, wDrop, wIfS, wPar, wFor, wWh, wV, wApp, wExt, wSetIx, wAug, wVal, wLook, wC, wOp, wTst, wChain, wAnd, wOr, wNot, wAndV, wOrV, wNotV, wIf, wNil, wCons, wTup, wLst, wCall, wCB, wIsT, wiR1, wiR2, wiSq, wiEn, wiZip, gN, gT1, gT2, gT3, gT4, gT5, gT6, gT7, wYes, gAdd, DV.gSub, gMul, gMod, gDiv, gPow, gLt, gLe, gGt, gGe, gCmp, gEq, gNe, gIs, gIsN, DV.isNon, gIn, gNotIn, gIx, gSlc, wSlc, wNoP, wPart, gLen, gAbs, gInt, gMin2, gMax2, gAll, gAny, gSum, gTuple, wNeg, wRev, itemsOf, D.isTy, D.isHand, Sl.toD, big_0, big_1, big_2, big_3, big_4, big_5, big_6, big_7, big_8, big_9, big_10, big_11, big_12, draw_iff, own_ex, val_ex, wipeE, restE, Sl.keep, Option.getD_some, get_z, get_s, set_z, set_s, List.length_cons, List.length_nil, atI_0, atI_1, atI_2, atI_3, atI_4, ixN_5_0, ixN_5_1, ixN_5_2, ixN_5_3, ixN_5_4, D.bl.injEq, D.int.injEq, D.lst.injEq, D.tup.injEq, D.str.injEq, Sl.own.injEq, Sl.val.injEq, Option.some.injEq, exists_eq_left', exists_eq_left, exists_eq', exists_eq, or_true, true_or, or_false, false_or, CMul, CPow, natAbs_10, natAbs_2, Int.cast_ofNat_Int, Nat.reducePow, exists_and_left, exists_const, and_assoc, true_and, and_true, and_self, false_and, and_false, if_true, if_false, ite_true, ite_false, reduceCtorEq, decide_true, decide_false, decide_eq_true_eq, decide_eq_false_iff_not, Bool.not_true, Bool.not_false, Bool.false_eq_true, List.replicate_zero, List.replicate_succ, List.map_cons, List.map_nil, List.nil_append, List.cons_append, Nat.reduceSub, Nat.reduceAdd, Nat.reduceLeDiff, Nat.reduceLT, Int.reduceLT, Int.reduceLE, Int.reduceAdd, Int.reduceSub, Int.reduceMul, Int.reduceNeg, Int.reduceMod, Int.reduceDiv, Int.reducePow, Int.reduceToNat, okD_int, okD_bl, okD_lst, okD_tup, okD_non, okL_nil, okL_cons, okD_str, okL_int, eqD_int, eqD_bl, eqD_str, eqD_tup, eqD_lst, eqL_cons, eqL_nil, eqL_cn, eqL_nc, eqL_int, Bool.and_eq_true, Bool.or_eq_true, Bool.not_eq_true', Bool.and_false, Bool.false_and, Bool.or_false, Bool.false_or, Bool.or_true, Bool.true_or, Bool.and_true, Bool.true_and, Bool.and_self, wIsT2, wDct0, wLstOf, wRepF, wAsgH, DV.hN, hIx, hCons, hNil, hTup, wLM, gCnt, gIdx, gList, gSorted, wAppPop, wRaise0, wRaise1, wTry, wIsE, wAct, wFl, flD, okD_bl]); exact hq ha
        | false => (try simp only [wSeq, wAsg, wOwn, wF, wLc, wSkip, wBrk, wCnt, wRet, wRetF, wRetN, wDrop, wIfS, wPar, wFor, wWh, wV, wApp, wExt, wSetIx, wAug, wVal, wLook, wC, wOp, wTst, wChain, wAnd, wOr, wNot, wAndV, wOrV, wNotV, wIf, wNil, wCons, wTup, wLst, wCall, wCB, wIsT, wiR1, wiR2, wiSq, wiEn, wiZip, gN, gT1, gT2, gT3, gT4, gT5, gT6, gT7, wYes, gAdd, DV.gSub, gMul, gMod, gDiv, gPow, gLt, gLe, gGt, gGe, gCmp, gEq, gNe, gIs, gIsN, DV.isNon, gIn, gNotIn, gIx, gSlc, wSlc, wNoP, wPart, gLen, gAbs, gInt, gMin2, gMax2, gAll, gAny, gSum, gTuple, wNeg, wRev, itemsOf, D.isTy, D.isHand, Sl.toD, big_0, big_1, big_2, big_3, big_4, big_5, big_6, big_7, big_8, big_9, big_10, big_11, big_12, draw_iff, own_ex, val_ex, wipeE, restE, Sl.keep, Option.getD_some, get_z, get_s, set_z, set_s, List.length_cons, List.length_nil, atI_0, atI_1, atI_2, atI_3, atI_4, ixN_5_0, ixN_5_1, ixN_5_2, ixN_5_3, ixN_5_4, D.bl.injEq, D.int.injEq, D.lst.injEq, D.tup.injEq, D.str.injEq, Sl.own.injEq, Sl.val.injEq, Option.some.injEq, exists_eq_left', exists_eq_left, exists_eq', exists_eq, or_true, true_or, or_false, false_or, CMul, CPow, natAbs_10, natAbs_2, Int.cast_ofNat_Int, Nat.reducePow, exists_and_left, exists_const, and_assoc, true_and, and_true, and_self, false_and, and_false, if_true, if_false, ite_true, ite_false, reduceCtorEq, decide_true, decide_false, decide_eq_true_eq, decide_eq_false_iff_not, Bool.not_true, Bool.not_false, Bool.false_eq_true, List.replicate_zero, List.replicate_succ, List.map_cons, List.map_nil, List.nil_append, List.cons_append, Nat.reduceSub, Nat.reduceAdd, Nat.reduceLeDiff, Nat.reduceLT, Int.reduceLT, Int.reduceLE, Int.reduceAdd, Int.reduceSub, Int.reduceMul, Int.reduceNeg, Int.reduceMod, Int.reduceDiv, Int.reducePow, Int.reduceToNat, okD_int, okD_bl, okD_lst, okD_tup, okD_non, okL_nil, okL_cons, okD_str, okL_int, eqD_int, eqD_bl, eqD_str, eqD_tup, eqD_lst, eqL_cons, eqL_nil, eqL_cn, eqL_nc, eqL_int, Bool.and_eq_true, Bool.or_eq_true, Bool.not_eq_true', Bool.and_false, Bool.false_and, Bool.or_false, Bool.false_or, Bool.or_true, Bool.true_or, Bool.and_true, Bool.true_and, Bool.and_self, wIsT2, wDct0, wLstOf, wRepF, wAsgH, DV.hN, hIx, hCons, hNil, hTup, wLM, gCnt, gIdx, gList, gSorted, wAppPop, wRaise0, wRaise1, wTry, wIsE, wAct, wFl, flD, okD_bl]); exact he ha
    | _ => unfold sizedT at hs; cases hs
  · rw [Bool.not_eq_true] at hs
    simp only [wSeq, wAsg, wOwn, wF, wLc, wSkip, wBrk, wCnt, wRet, wRetF, wRetN, wDrop, wIfS, wPar, wFor, wWh, wV, wApp, wExt, wSetIx, wAug, wVal, wLook, wC, wOp, wTst, wChain, wAnd, wOr, wNot, wAndV, wOrV, wNotV, wIf, wNil, wCons, wTup, wLst, wCall, wCB, wIsT, wiR1, wiR2, wiSq, wiEn, wiZip, gN, gT1, gT2, gT3, gT4, gT5, gT6, gT7, wYes, gAdd, DV.gSub, gMul, gMod, gDiv, gPow, gLt, gLe, gGt, gGe, gCmp, gEq, gNe, gIs, gIsN, DV.isNon, gIn, gNotIn, gIx, gSlc, wSlc, wNoP, wPart, gLen, gAbs, gInt, gMin2, gMax2, gAll, gAny, gSum, gTuple, wNeg, wRev, itemsOf, D.isTy, D.isHand, Sl.toD, big_0, big_1, big_2, big_3, big_4, big_5, big_6, big_7, big_8, big_9, big_10, big_11, big_12, draw_iff, own_ex, val_ex, wipeE, restE, Sl.keep, Option.getD_some, get_z, get_s, set_z, set_s, List.length_cons, List.length_nil, atI_0, atI_1, atI_2, atI_3, atI_4, ixN_5_0, ixN_5_1, ixN_5_2, ixN_5_3, ixN_5_4, D.bl.injEq, D.int.injEq, D.lst.injEq, D.tup.injEq, D.str.injEq, Sl.own.injEq, Sl.val.injEq, Option.some.injEq, exists_eq_left', exists_eq_left, exists_eq', exists_eq, or_true, true_or, or_false, false_or, CMul, CPow, natAbs_10, natAbs_2, Int.cast_ofNat_Int, Nat.reducePow, exists_and_left, exists_const, and_assoc, true_and, and_true, and_self, false_and, and_false, if_true, if_false, ite_true, ite_false, reduceCtorEq, decide_true, decide_false, decide_eq_true_eq, decide_eq_false_iff_not, Bool.not_true, Bool.not_false, Bool.false_eq_true, List.replicate_zero, List.replicate_succ, List.map_cons, List.map_nil, List.nil_append, List.cons_append, Nat.reduceSub, Nat.reduceAdd, Nat.reduceLeDiff, Nat.reduceLT, Int.reduceLT, Int.reduceLE, Int.reduceAdd, Int.reduceSub, Int.reduceMul, Int.reduceNeg, Int.reduceMod, Int.reduceDiv, Int.reducePow, Int.reduceToNat, okD_int, okD_bl, okD_lst, okD_tup, okD_non, okL_nil, okL_cons, okD_str, okL_int, eqD_int, eqD_bl, eqD_str, eqD_tup, eqD_lst, eqL_cons, eqL_nil, eqL_cn, eqL_nc, eqL_int, Bool.and_eq_true, Bool.or_eq_true, Bool.not_eq_true', Bool.and_false, Bool.false_and, Bool.or_false, Bool.false_or, Bool.or_true, Bool.true_or, Bool.and_true, Bool.true_and, Bool.and_self, wIsT2, wDct0, wLstOf, wRepF, wAsgH, DV.hN, hIx, hCons, hNil, hTup, wLM, gCnt, gIdx, gList, gSorted, wAppPop, wRaise0, wRaise1, wTry, wIsE, wAct, wFl, flD, okD_bl, hs]
    exact he (by rw [hs]; rfl)
theorem sp_cw_s {x y z : D} (hx : x.isHand = false) (w : within x 2 36 = false) (he : E ("NoNumber", [])) : T_check_weights [x, y, z] Q E := by
  unfold T_check_weights wFn B_check_weights
  simp only [wSeq, wAsg, wOwn, wF, wLc, wSkip, wBrk, wCnt, wRet, wRetF, wRetN, wDrop, wIfS, wPar, wFor, wWh, wV, wApp, wExt, wSetIx, wAug, wVal, wLook, wC, wOp, wTst, wChain, wAnd, wOr, wNot, wAndV, wOrV, wNotV, wIf, wNil, wCons, wTup, wLst, wCall, wCB, wIsT, wiR1, wiR2, wiSq, wiEn, wiZip, gN, gT1, gT2, gT3, gT4, gT5, gT6, gT7, wYes, gAdd, DV.gSub, gMul, gMod, gDiv, gPow, gLt, gLe, gGt, gGe, gCmp, gEq, gNe, gIs, gIsN, DV.isNon, gIn, gNotIn, gIx, gSlc, wSlc, wNoP, wPart, gLen, gAbs, gInt, gMin2, gMax2, gAll, gAny, gSum, gTuple, wNeg, wRev, itemsOf, D.isTy, D.isHand, Sl.toD, big_0, big_1, big_2, big_3, big_4, big_5, big_6, big_7, big_8, big_9, big_10, big_11, big_12, draw_iff, own_ex, val_ex, wipeE, restE, Sl.keep, Option.getD_some, get_z, get_s, set_z, set_s, List.length_cons, List.length_nil, atI_0, atI_1, atI_2, atI_3, atI_4, ixN_5_0, ixN_5_1, ixN_5_2, ixN_5_3, ixN_5_4, D.bl.injEq, D.int.injEq, D.lst.injEq, D.tup.injEq, D.str.injEq, Sl.own.injEq, Sl.val.injEq, Option.some.injEq, exists_eq_left', exists_eq_left, exists_eq', exists_eq, or_true, true_or, or_false, false_or, CMul, CPow, natAbs_10, natAbs_2, Int.cast_ofNat_Int, Nat.reducePow, exists_and_left, exists_const, and_assoc, true_and, and_true, and_self, false_and, and_false, if_true, if_false, ite_true, ite_false, reduceCtorEq, decide_true, decide_false, decide_eq_true_eq, decide_eq_false_iff_not, Bool.not_true, Bool.not_false, Bool.false_eq_true, List.replicate_zero, List.replicate_succ, List.map_cons, List.map_nil, List.nil_append, List.cons_append, Nat.reduceSub, Nat.reduceAdd, Nat.reduceLeDiff, Nat.reduceLT, Int.reduceLT, Int.reduceLE, Int.reduceAdd, Int.reduceSub, Int.reduceMul, Int.reduceNeg, Int.reduceMod, Int.reduceDiv, Int.reducePow, Int.reduceToNat, okD_int, okD_bl, okD_lst, okD_tup, okD_non, okL_nil, okL_cons, okD_str, okL_int, eqD_int, eqD_bl, eqD_str, eqD_tup, eqD_lst, eqL_cons, eqL_nil, eqL_cn, eqL_nc, eqL_int, Bool.and_eq_true, Bool.or_eq_true, Bool.not_eq_true', Bool.and_false, Bool.false_and, Bool.or_false, Bool.false_or, Bool.or_true, Bool.true_or, Bool.and_true, Bool.true_and, Bool.and_self, wIsT2, wDct0, wLstOf, wRepF, wAsgH, DV.hN, hIx, hCons, hNil, hTup, wLM, gCnt, gIdx, gList, gSorted, wAppPop, wRaise0, wRaise1, wTry, wIsE, wAct, wFl, flD, okD_bl, sp_check_number hx, w]
  exact he
theorem sp_cw_m (s1 : 2 ≤ s) (s2 : s ≤ 36) {y z : D} (hy : y.isHand = false) (w : within y 2 200 = false) (he : E ("NoNumber", [])) : T_check_weights [.int s, y, z] Q E := by
  have w1 : within (.int s) 2 36 = true := by unfold within; simp; omega
  unfold T_check_weights wFn B_check_weights
  simp only [wSeq, wAsg, wOwn, wF, wLc, wSkip, wBrk, wCnt, wRet, wRetF, wRetN, wDrop, wIfS, wPar, wFor, wWh, wV, wApp, wExt, wSetIx, wAug, wVal, wLook, wC, wOp, wTst, wChain, wAnd, wOr, wNot, wAndV, wOrV, wNotV, wIf, wNil, wCons, wTup, wLst, wCall, wCB, wIsT, wiR1, wiR2, wiSq, wiEn, wiZip, gN, gT1, gT2, gT3, gT4, gT5, gT6, gT7, wYes, gAdd, DV.gSub, gMul, gMod, gDiv, gPow, gLt, gLe, gGt, gGe, gCmp, gEq, gNe, gIs, gIsN, DV.isNon, gIn, gNotIn, gIx, gSlc, wSlc, wNoP, wPart, gLen, gAbs, gInt, gMin2, gMax2, gAll, gAny, gSum, gTuple, wNeg, wRev, itemsOf, D.isTy, D.isHand, Sl.toD, big_0, big_1, big_2, big_3, big_4, big_5, big_6, big_7, big_8, big_9, big_10, big_11, big_12, draw_iff, own_ex, val_ex, wipeE, restE, Sl.keep, Option.getD_some, get_z, get_s, set_z, set_s, List.length_cons, List.length_nil, atI_0, atI_1, atI_2, atI_3, atI_4, ixN_5_0, ixN_5_1, ixN_5_2, ixN_5_3, ixN_5_4, D.bl.injEq, D.int.injEq, D.lst.injEq, D.tup.injEq, D.str.injEq, Sl.own.injEq, Sl.val.injEq, Option.some.injEq, exists_eq_left', exists_eq_left, exists_eq', exists_eq, or_true, true_or, or_false, false_or, CMul, CPow, natAbs_10, natAbs_2, Int.cast_ofNat_Int, Nat.reducePow, exists_and_left, exists_const, and_assoc, true_and, and_true, and_self, false_and, and_false, if_true, if_false, ite_true, ite_false, reduceCtorEq, decide_true, decide_false, decide_eq_true_eq, decide_eq_false_iff_not, Bool.not_true, Bool.not_false, Bool.false_eq_true, List.replicate_zero, List.replicate_succ, List.map_cons, List.map_nil, List.nil_append, List.cons_append, Nat.reduceSub, Nat.reduceAdd, Nat.reduceLeDiff, Nat.reduceLT, Int.reduceLT, Int.reduceLE, Int.reduceAdd, Int.reduceSub, Int.reduceMul, Int.reduceNeg, Int.reduceMod, Int.reduceDiv, Int.reducePow, Int.reduceToNat, okD_int, okD_bl, okD_lst, okD_tup, okD_non, okL_nil, okL_cons, okD_str, okL_int, eqD_int, eqD_bl, eqD_str, eqD_tup, eqD_lst, eqL_cons, eqL_nil, eqL_cn, eqL_nc, eqL_int, Bool.and_eq_true, Bool.or_eq_true, Bool.not_eq_true', Bool.and_false, Bool.false_and, Bool.or_false, Bool.false_or, Bool.or_true, Bool.true_or, Bool.and_true, Bool.true_and, Bool.and_self, wIsT2, wDct0, wLstOf, wRepF, wAsgH, DV.hN, hIx, hCons, hNil, hTup, wLM, gCnt, gIdx, gList, gSorted, wAppPop, wRaise0, wRaise1, wTry, wIsE, wAct, wFl, flD, okD_bl, sp_check_number (x := .int s) rfl, w1]
  unfold B_check_weights_2
  simp only [wSeq, wAsg, wOwn, wF, wLc, wSkip, wBrk, wCnt, wRet, wRetF, wRetN, wDrop, wIfS, wPar, wFor, wWh, wV, wApp, wExt, wSetIx, wAug, wVal, wLook, wC, wOp, wTst, wChain, wAnd, wOr, wNot, wAndV, wOrV, wNotV, wIf, wNil, wCons, wTup, wLst, wCall, wCB, wIsT, wiR1, wiR2, wiSq, wiEn, wiZip, gN, gT1, gT2, gT3, gT4, gT5, gT6, gT7, wYes, gAdd, DV.gSub, gMul, gMod, gDiv, gPow, gLt, gLe, gGt, gGe, gCmp, gEq, gNe, gIs, gIsN, DV.isNon, gIn, gNotIn, gIx, gSlc, wSlc, wNoP, wPart, gLen, gAbs, gInt, gMin2, gMax2, gAll, gAny, gSum, gTuple, wNeg, wRev, itemsOf, D.isTy, D.isHand, Sl.toD, big_0, big_1, big_2, big_3, big_4, big_5, big_6, big_7, big_8, big_9, big_10, big_11, big_12, draw_iff, own_ex, val_ex, wipeE, restE, Sl.keep, Option.getD_some, get_z, get_s, set_z, set_s, List.length_cons, List.length_nil, atI_0, atI_1, atI_2, atI_3, atI_4, ixN_5_0, ixN_5_1, ixN_5_2, ixN_5_3, ixN_5_4, D.bl.injEq, D.int.injEq, D.lst.injEq, D.tup.injEq, D.str.injEq, Sl.own.injEq, Sl.val.injEq, Option.some.injEq, exists_eq_left', exists_eq_left, exists_eq', exists_eq, or_true, true_or, or_false, false_or, CMul, CPow, natAbs_10, natAbs_2, Int.cast_ofNat_Int, Nat.reducePow, exists_and_left, exists_const, and_assoc, true_and, and_true, and_self, false_and, and_false, if_true, if_false, ite_true, ite_false, reduceCtorEq, decide_true, decide_false, decide_eq_true_eq, decide_eq_false_iff_not, Bool.not_true, Bool.not_false, Bool.false_eq_true, List.replicate_zero, List.replicate_succ, List.map_cons, List.map_nil, List.nil_append, List.cons_append, Nat.reduceSub, Nat.reduceAdd, Nat.reduceLeDiff, Nat.reduceLT, Int.reduceLT, Int.reduceLE, Int.reduceAdd, Int.reduceSub, Int.reduceMul, Int.reduceNeg, Int.reduceMod, Int.reduceDiv, Int.reducePow, Int.reduceToNat, okD_int, okD_bl, okD_lst, okD_tup, okD_non, okL_nil, okL_cons, okD_str, okL_int, eqD_int, eqD_bl, eqD_str, eqD_tup, eqD_lst, eqL_cons, eqL_nil, eqL_cn, eqL_nc, eqL_int, Bool.and_eq_true, Bool.or_eq_true, Bool.not_eq_true', Bool.and_false, Bool.false_and, Bool.or_false, Bool.false_or, Bool.or_true, Bool.true_or, Bool.and_true, Bool.true_and, Bool.and_self, wIsT2, wDct0, wLstOf, wRepF, wAsgH, DV.hN, hIx, hCons, hNil, hTup, wLM, gCnt, gIdx, gList, gSorted, wAppPop, wRaise0, wRaise1, wTry, wIsE, wAct, wFl, flD, okD_bl, sp_check_number hy, w]
  exact he
/-- weights as they are drawn -/
structure Ws (m : Int) (ws : List Int) : Prop where
  l1 : 1 ≤ ws.length
  l2 : ws.length ≤ 24
  b : ∀ w ∈ ws, 0 ≤ w ∧ w < m
theorem Ws.ok {ws : List Int} (h : Ws m ws) : okW m (.tup (ws.map D.int)) = true := by
  obtain ⟨l1, l2, b⟩ := h
  unfold okW sizedT
  simp only [List.length_map, Bool.and_eq_true, decide_eq_true_eq, List.all_map, List.all_eq_true]
  refine ⟨⟨by omega, by omega⟩, fun w hw => ?_⟩
  have := b w hw
  show within (.int w) 0 (m - 1) = true
  unfold within
  simp; omega
theorem sp_one_told (c : Sm s m) {ws : List Int} (hw : Ws m ws) (h : Q (least s m (enumI 0 ws))) : T_one_told [.int s, .int m, .tup (ws.map D.int)] Q E := by
  unfold T_one_told wFn B_one_told
  (try simp only [wSeq, wAsg, wOwn, wF, wLc, wSkip, wBrk, wCnt, wRet, wRetF, wRetN, wDrop, wIfS, wPar, wFor, wWh, wV, wApp, wExt, wSetIx, wAug, wVal, wLook, wC, wOp, wTst, wChain, wAnd, wOr, wNot, wAndV, wOrV, wNotV, wIf, wNil, wCons, wTup, wLst, wCall, wCB, wIsT, wiR1, wiR2, wiSq, wiEn, wiZip, gN, gT1, gT2, gT3, gT4, gT5, gT6, gT7, wYes, gAdd, DV.gSub, gMul, gMod, gDiv, gPow, gLt, gLe, gGt, gGe, gCmp, gEq, gNe, gIs, gIsN, DV.isNon, gIn, gNotIn, gIx, gSlc, wSlc, wNoP, wPart, gLen, gAbs, gInt, gMin2, gMax2, gAll, gAny, gSum, gTuple, wNeg, wRev, itemsOf, D.isTy, D.isHand, Sl.toD, big_0, big_1, big_2, big_3, big_4, big_5, big_6, big_7, big_8, big_9, big_10, big_11, big_12, draw_iff, own_ex, val_ex, wipeE, restE, Sl.keep, Option.getD_some, get_z, get_s, set_z, set_s, List.length_cons, List.length_nil, atI_0, atI_1, atI_2, atI_3, atI_4, ixN_5_0, ixN_5_1, ixN_5_2, ixN_5_3, ixN_5_4, D.bl.injEq, D.int.injEq, D.lst.injEq, D.tup.injEq, D.str.injEq, Sl.own.injEq, Sl.val.injEq, Option.some.injEq, exists_eq_left', exists_eq_left, exists_eq', exists_eq, or_true, true_or, or_false, false_or, CMul, CPow, natAbs_10, natAbs_2, Int.cast_ofNat_Int, Nat.reducePow, exists_and_left, exists_const, and_assoc, true_and, and_true, and_self, false_and, and_false, if_true, if_false, ite_true, ite_false, reduceCtorEq, decide_true, decide_false, decide_eq_true_eq, decide_eq_false_iff_not, Bool.not_true, Bool.not_false, Bool.false_eq_true, List.replicate_zero, List.replicate_succ, List.map_cons, List.map_nil, List.nil_append, List.cons_append, Nat.reduceSub, Nat.reduceAdd, Nat.reduceLeDiff, Nat.reduceLT, Int.reduceLT, Int.reduceLE, Int.reduceAdd, Int.reduceSub, Int.reduceMul, Int.reduceNeg, Int.reduceMod, Int.reduceDiv, Int.reducePow, Int.reduceToNat, okD_int, okD_bl, okD_lst, okD_tup, okD_non, okL_nil, okL_cons, okD_str, okL_int, eqD_int, eqD_bl, eqD_str, eqD_tup, eqD_lst, eqL_cons, eqL_nil, eqL_cn, eqL_nc, eqL_int, Bool.and_eq_true, Bool.or_eq_true, Bool.not_eq_true', Bool.and_false, Bool.false_and, Bool.or_false, Bool.false_or, Bool.or_true, Bool.true_or, Bool.and_true, Bool.true_and, Bool.and_self, wIsT2, wDct0, wLstOf, wRepF, wAsgH, DV.hN, hIx, hCons, hNil, hTup, wLM, gCnt, gIdx, gList, gSorted, wAppPop, wRaise0, wRaise1, wTry, wIsE, wAct, wFl, flD, okD_bl])
  refine sp_cw c rfl (fun xs e d hd => ?_) (fun _ => ?_) (fun he => ?_)
  · cases e
    obtain ⟨_, _, rfl⟩ := List.mem_map.mp hd
    rfl
  · have ⟨s1, s2, m1, m2⟩ := c
    unfold B_one_told_2
    (try simp only [wSeq, wAsg, wOwn, wF, wLc, wSkip, wBrk, wCnt, wRet, wRetF, wRetN, wDrop, wIfS, wPar, wFor, wWh, wV, wApp, wExt, wSetIx, wAug, wVal, wLook, wC, wOp, wTst, wChain, wAnd, wOr, wNot, wAndV, wOrV, wNotV, wIf, wNil, wCons, wTup, wLst, wCall, wCB, wIsT, wiR1, wiR2, wiSq, wiEn, wiZip, gN, gT1, gT2, gT3, gT4, gT5, gT6, gT7, wYes, gAdd, DV.gSub, gMul, gMod, gDiv, gPow, gLt, gLe, gGt, gGe, gCmp, gEq, gNe, gIs, gIsN, DV.isNon, gIn, gNotIn, gIx, gSlc, wSlc, wNoP, wPart, gLen, gAbs, gInt, gMin2, gMax2, gAll, gAny, gSum, gTuple, wNeg, wRev, itemsOf, D.isTy, D.isHand, Sl.toD, big_0, big_1, big_2, big_3, big_4, big_5, big_6, big_7, big_8, big_9, big_10, big_11, big_12, draw_iff, own_ex, val_ex, wipeE, restE, Sl.keep, Option.getD_some, get_z, get_s, set_z, set_s, List.length_cons, List.length_nil, atI_0, atI_1, atI_2, atI_3, atI_4, ixN_5_0, ixN_5_1, ixN_5_2, ixN_5_3, ixN_5_4, D.bl.injEq, D.int.injEq, D.lst.injEq, D.tup.injEq, D.str.injEq, Sl.own.injEq, Sl.val.injEq, Option.some.injEq, exists_eq_left', exists_eq_left, exists_eq', exists_eq, or_true, true_or, or_false, false_or, CMul, CPow, natAbs_10, natAbs_2, Int.cast_ofNat_Int, Nat.reducePow, exists_and_left, exists_const, and_assoc, true_and, and_true, and_self, false_and, and_false, if_true, if_false, ite_true, ite_false, reduceCtorEq, decide_true, decide_false, decide_eq_true_eq, decide_eq_false_iff_not, Bool.not_true, Bool.not_false, Bool.false_eq_true, List.replicate_zero, List.replicate_succ, List.map_cons, List.map_nil, List.nil_append, List.cons_append, Nat.reduceSub, Nat.reduceAdd, Nat.reduceLeDiff, Nat.reduceLT, Int.reduceLT, Int.reduceLE, Int.reduceAdd, Int.reduceSub, Int.reduceMul, Int.reduceNeg, Int.reduceMod, Int.reduceDiv, Int.reducePow, Int.reduceToNat, okD_int, okD_bl, okD_lst, okD_tup, okD_non, okL_nil, okL_cons, okD_str, okL_int, eqD_int, eqD_bl, eqD_str, eqD_tup, eqD_lst, eqL_cons, eqL_nil, eqL_cn, eqL_nc, eqL_int, Bool.and_eq_true, Bool.or_eq_true, Bool.not_eq_true', Bool.and_false, Bool.false_and, Bool.or_false, Bool.false_or, Bool.or_true, Bool.true_or, Bool.and_true, Bool.true_and, Bool.and_self, wIsT2, wDct0, wLstOf, wRepF, wAsgH, DV.hN, hIx, hCons, hNil, hTup, wLM, gCnt, gIdx, gList, gSorted, wAppPop, wRaise0, wRaise1, wTry, wIsE, wAct, wFl, flD, okD_bl])
    rw [enumD_map 0 ws]
    refine for_search (fP s m) (fun env => ∃ s3 s4 s5 s6, env = [.val (.int s), .val (.int m), .val (.tup (ws.map D.int)), s3, s4, s5, s6]) (fun d hd e => ?_) (fun hn e he => ?_) (fun x hx env he P hP1 hP2 => ?_) ⟨_, _, _, _, rfl⟩
    · unfold least at h
      rw [show (0 : Int) = ((0 : Nat) : Int) from rfl] at h
      rw [hd] at h
      exact h
    · obtain ⟨s3, s4, s5, s6, rfl⟩ := he
      unfold least at h
      rw [show (0 : Int) = ((0 : Nat) : Int) from rfl] at h
      rw [hn] at h
      unfold B_one_told_7
      (try simp only [wSeq, wAsg, wOwn, wF, wLc, wSkip, wBrk, wCnt, wRet, wRetF, wRetN, wDrop, wIfS, wPar, wFor, wWh, wV, wApp, wExt, wSetIx, wAug, wVal, wLook, wC, wOp, wTst, wChain, wAnd, wOr, wNot, wAndV, wOrV, wNotV, wIf, wNil, wCons, wTup, wLst, wCall, wCB, wIsT, wiR1, wiR2, wiSq, wiEn, wiZip, gN, gT1, gT2, gT3, gT4, gT5, gT6, gT7, wYes, gAdd, DV.gSub, gMul, gMod, gDiv, gPow, gLt, gLe, gGt, gGe, gCmp, gEq, gNe, gIs, gIsN, DV.isNon, gIn, gNotIn, gIx, gSlc, wSlc, wNoP, wPart, gLen, gAbs, gInt, gMin2, gMax2, gAll, gAny, gSum, gTuple, wNeg, wRev, itemsOf, D.isTy, D.isHand, Sl.toD, big_0, big_1, big_2, big_3, big_4, big_5, big_6, big_7, big_8, big_9, big_10, big_11, big_12, draw_iff, own_ex, val_ex, wipeE, restE, Sl.keep, Option.getD_some, get_z, get_s, set_z, set_s, List.length_cons, List.length_nil, atI_0, atI_1, atI_2, atI_3, atI_4, ixN_5_0, ixN_5_1, ixN_5_2, ixN_5_3, ixN_5_4, D.bl.injEq, D.int.injEq, D.lst.injEq, D.tup.injEq, D.str.injEq, Sl.own.injEq, Sl.val.injEq, Option.some.injEq, exists_eq_left', exists_eq_left, exists_eq', exists_eq, or_true, true_or, or_false, false_or, CMul, CPow, natAbs_10, natAbs_2, Int.cast_ofNat_Int, Nat.reducePow, exists_and_left, exists_const, and_assoc, true_and, and_true, and_self, false_and, and_false, if_true, if_false, ite_true, ite_false, reduceCtorEq, decide_true, decide_false, decide_eq_true_eq, decide_eq_false_iff_not, Bool.not_true, Bool.not_false, Bool.false_eq_true, List.replicate_zero, List.replicate_succ, List.map_cons, List.map_nil, List.nil_append, List.cons_append, Nat.reduceSub, Nat.reduceAdd, Nat.reduceLeDiff, Nat.reduceLT, Int.reduceLT, Int.reduceLE, Int.reduceAdd, Int.reduceSub, Int.reduceMul, Int.reduceNeg, Int.reduceMod, Int.reduceDiv, Int.reducePow, Int.reduceToNat, okD_int, okD_bl, okD_lst, okD_tup, okD_non, okL_nil, okL_cons, okD_str, okL_int, eqD_int, eqD_bl, eqD_str, eqD_tup, eqD_lst, eqL_cons, eqL_nil, eqL_cn, eqL_nc, eqL_int, Bool.and_eq_true, Bool.or_eq_true, Bool.not_eq_true', Bool.and_false, Bool.false_and, Bool.or_false, Bool.false_or, Bool.or_true, Bool.true_or, Bool.and_true, Bool.true_and, Bool.and_self, wIsT2, wDct0, wLstOf, wRepF, wAsgH, DV.hN, hIx, hCons, hNil, hTup, wLM, gCnt, gIdx, gList, gSorted, wAppPop, wRaise0, wRaise1, wTry, wIsE, wAct, wFl, flD, okD_bl])
      exact h
    · obtain ⟨s3, s4, s5, s6, rfl⟩ := he
      obtain ⟨p, w⟩ := x
      obtain ⟨hwm, hp1, hp2⟩ := enumI_mem hx
      have hw2 := hw.b _ hwm
      unfold embP
      (try simp only [wSeq, wAsg, wOwn, wF, wLc, wSkip, wBrk, wCnt, wRet, wRetF, wRetN, wDrop, wIfS, wPar, wFor, wWh, wV, wApp, wExt, wSetIx, wAug, wVal, wLook, wC, wOp, wTst, wChain, wAnd, wOr, wNot, wAndV, wOrV, wNotV, wIf, wNil, wCons, wTup, wLst, wCall, wCB, wIsT, wiR1, wiR2, wiSq, wiEn, wiZip, gN, gT1, gT2, gT3, gT4, gT5, gT6, gT7, wYes, gAdd, DV.gSub, gMul, gMod, gDiv, gPow, gLt, gLe, gGt, gGe, gCmp, gEq, gNe, gIs, gIsN, DV.isNon, gIn, gNotIn, gIx, gSlc, wSlc, wNoP, wPart, gLen, gAbs, gInt, gMin2, gMax2, gAll, gAny, gSum, gTuple, wNeg, wRev, itemsOf, D.isTy, D.isHand, Sl.toD, big_0, big_1, big_2, big_3, big_4, big_5, big_6, big_7, big_8, big_9, big_10, big_11, big_12, draw_iff, own_ex, val_ex, wipeE, restE, Sl.keep, Option.getD_some, get_z, get_s, set_z, set_s, List.length_cons, List.length_nil, atI_0, atI_1, atI_2, atI_3, atI_4, ixN_5_0, ixN_5_1, ixN_5_2, ixN_5_3, ixN_5_4, D.bl.injEq, D.int.injEq, D.lst.injEq, D.tup.injEq, D.str.injEq, Sl.own.injEq, Sl.val.injEq, Option.some.injEq, exists_eq_left', exists_eq_left, exists_eq', exists_eq, or_true, true_or, or_false, false_or, CMul, CPow, natAbs_10, natAbs_2, Int.cast_ofNat_Int, Nat.reducePow, exists_and_left, exists_const, and_assoc, true_and, and_true, and_self, false_and, and_false, if_true, if_false, ite_true, ite_false, reduceCtorEq, decide_true, decide_false, decide_eq_true_eq, decide_eq_false_iff_not, Bool.not_true, Bool.not_false, Bool.false_eq_true, List.replicate_zero, List.replicate_succ, List.map_cons, List.map_nil, List.nil_append, List.cons_append, Nat.reduceSub, Nat.reduceAdd, Nat.reduceLeDiff, Nat.reduceLT, Int.reduceLT, Int.reduceLE, Int.reduceAdd, Int.reduceSub, Int.reduceMul, Int.reduceNeg, Int.reduceMod, Int.reduceDiv, Int.reducePow, Int.reduceToNat, okD_int, okD_bl, okD_lst, okD_tup, okD_non, okL_nil, okL_cons, okD_str, okL_int, eqD_int, eqD_bl, eqD_str, eqD_tup, eqD_lst, eqL_cons, eqL_nil, eqL_cn, eqL_nc, eqL_int, Bool.and_eq_true, Bool.or_eq_true, Bool.not_eq_true', Bool.and_false, Bool.false_and, Bool.or_false, Bool.false_or, Bool.or_true, Bool.true_or, Bool.and_true, Bool.true_and, Bool.and_self, wIsT2, wDct0, wLstOf, wRepF, wAsgH, DV.hN, hIx, hCons, hNil, hTup, wLM, gCnt, gIdx, gList, gSorted, wAppPop, wRaise0, wRaise1, wTry, wIsE, wAct, wFl, flD, okD_bl])
      unfold B_one_told_3
      (try simp only [wSeq, wAsg, wOwn, wF, wLc, wSkip, wBrk, wCnt, wRet, wRetF, wRetN, wDrop, wIfS, wPar, wFor, wWh, wV, wApp, wExt, wSetIx, wAug, wVal, wLook, wC, wOp, wTst, wChain, wAnd, wOr, wNot, wAndV, wOrV, wNotV, wIf, wNil, wCons, wTup, wLst, wCall, wCB, wIsT, wiR1, wiR2, wiSq, wiEn, wiZip, gN, gT1, gT2, gT3, gT4, gT5, gT6, gT7, wYes, gAdd, DV.gSub, gMul, gMod, gDiv, gPow, gLt, gLe, gGt, gGe, gCmp, gEq, gNe, gIs, gIsN, DV.isNon, gIn, gNotIn, gIx, gSlc, wSlc, wNoP, wPart, gLen, gAbs, gInt, gMin2, gMax2, gAll, gAny, gSum, gTuple, wNeg, wRev, itemsOf, D.isTy, D.isHand, Sl.toD, big_0, big_1, big_2, big_3, big_4, big_5, big_6, big_7, big_8, big_9, big_10, big_11, big_12, draw_iff, own_ex, val_ex, wipeE, restE, Sl.keep, Option.getD_some, get_z, get_s, set_z, set_s, List.length_cons, List.length_nil, atI_0, atI_1, atI_2, atI_3, atI_4, ixN_5_0, ixN_5_1, ixN_5_2, ixN_5_3, ixN_5_4, D.bl.injEq, D.int.injEq, D.lst.injEq, D.tup.injEq, D.str.injEq, Sl.own.injEq, Sl.val.injEq, Option.some.injEq, exists_eq_left', exists_eq_left, exists_eq', exists_eq, or_true, true_or, or_false, false_or, CMul, CPow, natAbs_10, natAbs_2, Int.cast_ofNat_Int, Nat.reducePow, exists_and_left, exists_const, and_assoc, true_and, and_true, and_self, false_and, and_false, if_true, if_false, ite_true, ite_false, reduceCtorEq, decide_true, decide_false, decide_eq_true_eq, decide_eq_false_iff_not, Bool.not_true, Bool.not_false, Bool.false_eq_true, List.replicate_zero, List.replicate_succ, List.map_cons, List.map_nil, List.nil_append, List.cons_append, Nat.reduceSub, Nat.reduceAdd, Nat.reduceLeDiff, Nat.reduceLT, Int.reduceLT, Int.reduceLE, Int.reduceAdd, Int.reduceSub, Int.reduceMul, Int.reduceNeg, Int.reduceMod, Int.reduceDiv, Int.reducePow, Int.reduceToNat, okD_int, okD_bl, okD_lst, okD_tup, okD_non, okL_nil, okL_cons, okD_str, okL_int, eqD_int, eqD_bl, eqD_str, eqD_tup, eqD_lst, eqL_cons, eqL_nil, eqL_cn, eqL_nc, eqL_int, Bool.and_eq_true, Bool.or_eq_true, Bool.not_eq_true', Bool.and_false, Bool.false_and, Bool.or_false, Bool.false_or, Bool.or_true, Bool.true_or, Bool.and_true, Bool.true_and, Bool.and_self, wIsT2, wDct0, wLstOf, wRepF, wAsgH, DV.hN, hIx, hCons, hNil, hTup, wLM, gCnt, gIdx, gList, gSorted, wAppPop, wRaise0, wRaise1, wTry, wIsE, wAct, wFl, flD, okD_bl])
      refine ⟨by omega, by omega, ?_⟩
      rw [rangeD_map]
      refine for_search (fA s m w p) (fun env => ∃ s5 s6, env = [.val (.int s), .val (.int m), .val (.tup (ws.map D.int)), .val (.int p), .val (.int w), s5, s6]) (fun d hd e => hP1 d hd e) (fun hn e he => ?_) (fun a ha env he P' hP1' hP2' => ?_) ⟨_, _, rfl⟩
      · obtain ⟨s5, s6, rfl⟩ := he
        exact hP2 hn _ ⟨_, _, _, _, rfl⟩
      · obtain ⟨s5, s6, rfl⟩ := he
        rw [mem_rangeI] at ha
        (try simp only [wSeq, wAsg, wOwn, wF, wLc, wSkip, wBrk, wCnt, wRet, wRetF, wRetN, wDrop, wIfS, wPar, wFor, wWh, wV, wApp, wExt, wSetIx, wAug, wVal, wLook, wC, wOp, wTst, wChain, wAnd, wOr, wNot, wAndV, wOrV, wNotV, wIf, wNil, wCons, wTup, wLst, wCall, wCB, wIsT, wiR1, wiR2, wiSq, wiEn, wiZip, gN, gT1, gT2, gT3, gT4, gT5, gT6, gT7, wYes, gAdd, DV.gSub, gMul, gMod, gDiv, gPow, gLt, gLe, gGt, gGe, gCmp, gEq, gNe, gIs, gIsN, DV.isNon, gIn, gNotIn, gIx, gSlc, wSlc, wNoP, wPart, gLen, gAbs, gInt, gMin2, gMax2, gAll, gAny, gSum, gTuple, wNeg, wRev, itemsOf, D.isTy, D.isHand, Sl.toD, big_0, big_1, big_2, big_3, big_4, big_5, big_6, big_7, big_8, big_9, big_10, big_11, big_12, draw_iff, own_ex, val_ex, wipeE, restE, Sl.keep, Option.getD_some, get_z, get_s, set_z, set_s, List.length_cons, List.length_nil, atI_0, atI_1, atI_2, atI_3, atI_4, ixN_5_0, ixN_5_1, ixN_5_2, ixN_5_3, ixN_5_4, D.bl.injEq, D.int.injEq, D.lst.injEq, D.tup.injEq, D.str.injEq, Sl.own.injEq, Sl.val.injEq, Option.some.injEq, exists_eq_left', exists_eq_left, exists_eq', exists_eq, or_true, true_or, or_false, false_or, CMul, CPow, natAbs_10, natAbs_2, Int.cast_ofNat_Int, Nat.reducePow, exists_and_left, exists_const, and_assoc, true_and, and_true, and_self, false_and, and_false, if_true, if_false, ite_true, ite_false, reduceCtorEq, decide_true, decide_false, decide_eq_true_eq, decide_eq_false_iff_not, Bool.not_true, Bool.not_false, Bool.false_eq_true, List.replicate_zero, List.replicate_succ, List.map_cons, List.map_nil, List.nil_append, List.cons_append, Nat.reduceSub, Nat.reduceAdd, Nat.reduceLeDiff, Nat.reduceLT, Int.reduceLT, Int.reduceLE, Int.reduceAdd, Int.reduceSub, Int.reduceMul, Int.reduceNeg, Int.reduceMod, Int.reduceDiv, Int.reducePow, Int.reduceToNat, okD_int, okD_bl, okD_lst, okD_tup, okD_non, okL_nil, okL_cons, okD_str, okL_int, eqD_int, eqD_bl, eqD_str, eqD_tup, eqD_lst, eqL_cons, eqL_nil, eqL_cn, eqL_nc, eqL_int, Bool.and_eq_true, Bool.or_eq_true, Bool.not_eq_true', Bool.and_false, Bool.false_and, Bool.or_false, Bool.false_or, Bool.or_true, Bool.true_or, Bool.and_true, Bool.true_and, Bool.and_self, wIsT2, wDct0, wLstOf, wRepF, wAsgH, DV.hN, hIx, hCons, hNil, hTup, wLM, gCnt, gIdx, gList, gSorted, wAppPop, wRaise0, wRaise1, wTry, wIsE, wAct, wFl, flD, okD_bl])
        unfold B_one_told_4
        (try simp only [wSeq, wAsg, wOwn, wF, wLc, wSkip, wBrk, wCnt, wRet, wRetF, wRetN, wDrop, wIfS, wPar, wFor, wWh, wV, wApp, wExt, wSetIx, wAug, wVal, wLook, wC, wOp, wTst, wChain, wAnd, wOr, wNot, wAndV, wOrV, wNotV, wIf, wNil, wCons, wTup, wLst, wCall, wCB, wIsT, wiR1, wiR2, wiSq, wiEn, wiZip, gN, gT1, gT2, gT3, gT4, gT5, gT6, gT7, wYes, gAdd, DV.gSub, gMul, gMod, gDiv, gPow, gLt, gLe, gGt, gGe, gCmp, gEq, gNe, gIs, gIsN, DV.isNon, gIn, gNotIn, gIx, gSlc, wSlc, wNoP, wPart, gLen, gAbs, gInt, gMin2, gMax2, gAll, gAny, gSum, gTuple, wNeg, wRev, itemsOf, D.isTy, D.isHand, Sl.toD, big_0, big_1, big_2, big_3, big_4, big_5, big_6, big_7, big_8, big_9, big_10, big_11, big_12, draw_iff, own_ex, val_ex, wipeE, restE, Sl.keep, Option.getD_some, get_z, get_s, set_z, set_s, List.length_cons, List.length_nil, atI_0, atI_1, atI_2, atI_3, atI_4, ixN_5_0, ixN_5_1, ixN_5_2, ixN_5_3, ixN_5_4, D.bl.injEq, D.int.injEq, D.lst.injEq, D.tup.injEq, D.str.injEq, Sl.own.injEq, Sl.val.injEq, Option.some.injEq, exists_eq_left', exists_eq_left, exists_eq', exists_eq, or_true, true_or, or_false, false_or, CMul, CPow, natAbs_10, natAbs_2, Int.cast_ofNat_Int, Nat.reducePow, exists_and_left, exists_const, and_assoc, true_and, and_true, and_self, false_and, and_false, if_true, if_false, ite_true, ite_false, reduceCtorEq, decide_true, decide_false, decide_eq_true_eq, decide_eq_false_iff_not, Bool.not_true, Bool.not_false, Bool.false_eq_true, List.replicate_zero, List.replicate_succ, List.map_cons, List.map_nil, List.nil_append, List.cons_append, Nat.reduceSub, Nat.reduceAdd, Nat.reduceLeDiff, Nat.reduceLT, Int.reduceLT, Int.reduceLE, Int.reduceAdd, Int.reduceSub, Int.reduceMul, Int.reduceNeg, Int.reduceMod, Int.reduceDiv, Int.reducePow, Int.reduceToNat, okD_int, okD_bl, okD_lst, okD_tup, okD_non, okL_nil, okL_cons, okD_str, okL_int, eqD_int, eqD_bl, eqD_str, eqD_tup, eqD_lst, eqL_cons, eqL_nil, eqL_cn, eqL_nc, eqL_int, Bool.and_eq_true, Bool.or_eq_true, Bool.not_eq_true', Bool.and_false, Bool.false_and, Bool.or_false, Bool.false_or, Bool.or_true, Bool.true_or, Bool.and_true, Bool.true_and, Bool.and_self, wIsT2, wDct0, wLstOf, wRepF, wAsgH, DV.hN, hIx, hCons, hNil, hTup, wLM, gCnt, gIdx, gList, gSorted, wAppPop, wRaise0, wRaise1, wTry, wIsE, wAct, wFl, flD, okD_bl])
        refine ⟨by omega, by omega, ?_⟩
        rw [rangeD_map]
        refine for_search (fB m w p a) (fun env => ∃ s6, env = [.val (.int s), .val (.int m), .val (.tup (ws.map D.int)), .val (.int p), .val (.int w), .val (.int a), s6]) (fun d hd e => hP1' d hd e) (fun hn e he => ?_) (fun b hb env he P'' hP1'' hP2'' => ?_) ⟨_, rfl⟩
        · obtain ⟨s6, rfl⟩ := he
          exact hP2' hn _ ⟨_, _, rfl⟩
        · obtain ⟨s6, rfl⟩ := he
          rw [mem_rangeI] at hb
          (try simp only [wSeq, wAsg, wOwn, wF, wLc, wSkip, wBrk, wCnt, wRet, wRetF, wRetN, wDrop, wIfS, wPar, wFor, wWh, wV, wApp, wExt, wSetIx, wAug, wVal, wLook, wC, wOp, wTst, wChain, wAnd, wOr, wNot, wAndV, wOrV, wNotV, wIf, wNil, wCons, wTup, wLst, wCall, wCB, wIsT, wiR1, wiR2, wiSq, wiEn, wiZip, gN, gT1, gT2, gT3, gT4, gT5, gT6, gT7, wYes, gAdd, DV.gSub, gMul, gMod, gDiv, gPow, gLt, gLe, gGt, gGe, gCmp, gEq, gNe, gIs, gIsN, DV.isNon, gIn, gNotIn, gIx, gSlc, wSlc, wNoP, wPart, gLen, gAbs, gInt, gMin2, gMax2, gAll, gAny, gSum, gTuple, wNeg, wRev, itemsOf, D.isTy, D.isHand, Sl.toD, big_0, big_1, big_2, big_3, big_4, big_5, big_6, big_7, big_8, big_9, big_10, big_11, big_12, draw_iff, own_ex, val_ex, wipeE, restE, Sl.keep, Option.getD_some, get_z, get_s, set_z, set_s, List.length_cons, List.length_nil, atI_0, atI_1, atI_2, atI_3, atI_4, ixN_5_0, ixN_5_1, ixN_5_2, ixN_5_3, ixN_5_4, D.bl.injEq, D.int.injEq, D.lst.injEq, D.tup.injEq, D.str.injEq, Sl.own.injEq, Sl.val.injEq, Option.some.injEq, exists_eq_left', exists_eq_left, exists_eq', exists_eq, or_true, true_or, or_false, false_or, CMul, CPow, natAbs_10, natAbs_2, Int.cast_ofNat_Int, Nat.reducePow, exists_and_left, exists_const, and_assoc, true_and, and_true, and_self, false_and, and_false, if_true, if_false, ite_true, ite_false, reduceCtorEq, decide_true, decide_false, decide_eq_true_eq, decide_eq_false_iff_not, Bool.not_true, Bool.not_false, Bool.false_eq_true, List.replicate_zero, List.replicate_succ, List.map_cons, List.map_nil, List.nil_append, List.cons_append, Nat.reduceSub, Nat.reduceAdd, Nat.reduceLeDiff, Nat.reduceLT, Int.reduceLT, Int.reduceLE, Int.reduceAdd, Int.reduceSub, Int.reduceMul, Int.reduceNeg, Int.reduceMod, Int.reduceDiv, Int.reducePow, Int.reduceToNat, okD_int, okD_bl, okD_lst, okD_tup, okD_non, okL_nil, okL_cons, okD_str, okL_int, eqD_int, eqD_bl, eqD_str, eqD_tup, eqD_lst, eqL_cons, eqL_nil, eqL_cn, eqL_nc, eqL_int, Bool.and_eq_true, Bool.or_eq_true, Bool.not_eq_true', Bool.and_false, Bool.false_and, Bool.or_false, Bool.false_or, Bool.or_true, Bool.true_or, Bool.and_true, Bool.true_and, Bool.and_self, wIsT2, wDct0, wLstOf, wRepF, wAsgH, DV.hN, hIx, hCons, hNil, hTup, wLM, gCnt, gIdx, gList, gSorted, wAppPop, wRaise0, wRaise1, wTry, wIsE, wAct, wFl, flD, okD_bl])
          unfold B_one_told_5
          by_cases hab : a = b
          · simp only [wSeq, wAsg, wOwn, wF, wLc, wSkip, wBrk, wCnt, wRet, wRetF, wRetN, wDrop, wIfS, wPar, wFor, wWh, wV, wApp, wExt, wSetIx, wAug, wVal, wLook, wC, wOp, wTst, wChain, wAnd, wOr, wNot, wAndV, wOrV, wNotV, wIf, wNil, wCons, wTup, wLst, wCall, wCB, wIsT, wiR1, wiR2, wiSq, wiEn, wiZip, gN, gT1, gT2, gT3, gT4, gT5, gT6, gT7, wYes, gAdd, DV.gSub, gMul, gMod, gDiv, gPow, gLt, gLe, gGt, gGe, gCmp, gEq, gNe, gIs, gIsN, DV.isNon, gIn, gNotIn, gIx, gSlc, wSlc, wNoP, wPart, gLen, gAbs, gInt, gMin2, gMax2, gAll, gAny, gSum, gTuple, wNeg, wRev, itemsOf, D.isTy, D.isHand, Sl.toD, big_0, big_1, big_2, big_3, big_4, big_5, big_6, big_7, big_8, big_9, big_10, big_11, big_12, draw_iff, own_ex, val_ex, wipeE, restE, Sl.keep, Option.getD_some, get_z, get_s, set_z, set_s, List.length_cons, List.length_nil, atI_0, atI_1, atI_2, atI_3, atI_4, ixN_5_0, ixN_5_1, ixN_5_2, ixN_5_3, ixN_5_4, D.bl.injEq, D.int.injEq, D.lst.injEq, D.tup.injEq, D.str.injEq, Sl.own.injEq, Sl.val.injEq, Option.some.injEq, exists_eq_left', exists_eq_left, exists_eq', exists_eq, or_true, true_or, or_false, false_or, CMul, CPow, natAbs_10, natAbs_2, Int.cast_ofNat_Int, Nat.reducePow, exists_and_left, exists_const, and_assoc, true_and, and_true, and_self, false_and, and_false, if_true, if_false, ite_true, ite_false, reduceCtorEq, decide_true, decide_false, decide_eq_true_eq, decide_eq_false_iff_not, Bool.not_true, Bool.not_false, Bool.false_eq_true, List.replicate_zero, List.replicate_succ, List.map_cons, List.map_nil, List.nil_append, List.cons_append, Nat.reduceSub, Nat.reduceAdd, Nat.reduceLeDiff, Nat.reduceLT, Int.reduceLT, Int.reduceLE, Int.reduceAdd, Int.reduceSub, Int.reduceMul, Int.reduceNeg, Int.reduceMod, Int.reduceDiv, Int.reducePow, Int.reduceToNat, okD_int, okD_bl, okD_lst, okD_tup, okD_non, okL_nil, okL_cons, okD_str, okL_int, eqD_int, eqD_bl, eqD_str, eqD_tup, eqD_lst, eqL_cons, eqL_nil, eqL_cn, eqL_nc, eqL_int, Bool.and_eq_true, Bool.or_eq_true, Bool.not_eq_true', Bool.and_false, Bool.false_and, Bool.or_false, Bool.false_or, Bool.or_true, Bool.true_or, Bool.and_true, Bool.true_and, Bool.and_self, wIsT2, wDct0, wLstOf, wRepF, wAsgH, DV.hN, hIx, hCons, hNil, hTup, wLM, gCnt, gIdx, gList, gSorted, wAppPop, wRaise0, wRaise1, wTry, wIsE, wAct, wFl, flD, okD_bl, hab]
            refine hP2'' ?_ _ ⟨_, by rw [hab]⟩
            unfold fB hit
            simp [hab]
          · simp only [wSeq, wAsg, wOwn, wF, wLc, wSkip, wBrk, wCnt, wRet, wRetF, wRetN, wDrop, wIfS, wPar, wFor, wWh, wV, wApp, wExt, wSetIx, wAug, wVal, wLook, wC, wOp, wTst, wChain, wAnd, wOr, wNot, wAndV, wOrV, wNotV, wIf, wNil, wCons, wTup, wLst, wCall, wCB, wIsT, wiR1, wiR2, wiSq, wiEn, wiZip, gN, gT1, gT2, gT3, gT4, gT5, gT6, gT7, wYes, gAdd, DV.gSub, gMul, gMod, gDiv, gPow, gLt, gLe, gGt, gGe, gCmp, gEq, gNe, gIs, gIsN, DV.isNon, gIn, gNotIn, gIx, gSlc, wSlc, wNoP, wPart, gLen, gAbs, gInt, gMin2, gMax2, gAll, gAny, gSum, gTuple, wNeg, wRev, itemsOf, D.isTy, D.isHand, Sl.toD, big_0, big_1, big_2, big_3, big_4, big_5, big_6, big_7, big_8, big_9, big_10, big_11, big_12, draw_iff, own_ex, val_ex, wipeE, restE, Sl.keep, Option.getD_some, get_z, get_s, set_z, set_s, List.length_cons, List.length_nil, atI_0, atI_1, atI_2, atI_3, atI_4, ixN_5_0, ixN_5_1, ixN_5_2, ixN_5_3, ixN_5_4, D.bl.injEq, D.int.injEq, D.lst.injEq, D.tup.injEq, D.str.injEq, Sl.own.injEq, Sl.val.injEq, Option.some.injEq, exists_eq_left', exists_eq_left, exists_eq', exists_eq, or_true, true_or, or_false, false_or, CMul, CPow, natAbs_10, natAbs_2, Int.cast_ofNat_Int, Nat.reducePow, exists_and_left, exists_const, and_assoc, true_and, and_true, and_self, false_and, and_false, if_true, if_false, ite_true, ite_false, reduceCtorEq, decide_true, decide_false, decide_eq_true_eq, decide_eq_false_iff_not, Bool.not_true, Bool.not_false, Bool.false_eq_true, List.replicate_zero, List.replicate_succ, List.map_cons, List.map_nil, List.nil_append, List.cons_append, Nat.reduceSub, Nat.reduceAdd, Nat.reduceLeDiff, Nat.reduceLT, Int.reduceLT, Int.reduceLE, Int.reduceAdd, Int.reduceSub, Int.reduceMul, Int.reduceNeg, Int.reduceMod, Int.reduceDiv, Int.reducePow, Int.reduceToNat, okD_int, okD_bl, okD_lst, okD_tup, okD_non, okL_nil, okL_cons, okD_str, okL_int, eqD_int, eqD_bl, eqD_str, eqD_tup, eqD_lst, eqL_cons, eqL_nil, eqL_cn, eqL_nc, eqL_int, Bool.and_eq_true, Bool.or_eq_true, Bool.not_eq_true', Bool.and_false, Bool.false_and, Bool.or_false, Bool.false_or, Bool.or_true, Bool.true_or, Bool.and_true, Bool.true_and, Bool.and_self, wIsT2, wDct0, wLstOf, wRepF, wAsgH, DV.hN, hIx, hCons, hNil, hTup, wLM, gCnt, gIdx, gList, gSorted, wAppPop, wRaise0, wRaise1, wTry, wIsE, wAct, wFl, flD, okD_bl, hab]
            refine ⟨.inl ⟨by omega, by omega⟩, ?_⟩
            rw [sp_is_unseen (by omega)]
            by_cases hz : (a - b) * w % m = 0
            · simp only [wSeq, wAsg, wOwn, wF, wLc, wSkip, wBrk, wCnt, wRet, wRetF, wRetN, wDrop, wIfS, wPar, wFor, wWh, wV, wApp, wExt, wSetIx, wAug, wVal, wLook, wC, wOp, wTst, wChain, wAnd, wOr, wNot, wAndV, wOrV, wNotV, wIf, wNil, wCons, wTup, wLst, wCall, wCB, wIsT, wiR1, wiR2, wiSq, wiEn, wiZip, gN, gT1, gT2, gT3, gT4, gT5, gT6, gT7, wYes, gAdd, DV.gSub, gMul, gMod, gDiv, gPow, gLt, gLe, gGt, gGe, gCmp, gEq, gNe, gIs, gIsN, DV.isNon, gIn, gNotIn, gIx, gSlc, wSlc, wNoP, wPart, gLen, gAbs, gInt, gMin2, gMax2, gAll, gAny, gSum, gTuple, wNeg, wRev, itemsOf, D.isTy, D.isHand, Sl.toD, big_0, big_1, big_2, big_3, big_4, big_5, big_6, big_7, big_8, big_9, big_10, big_11, big_12, draw_iff, own_ex, val_ex, wipeE, restE, Sl.keep, Option.getD_some, get_z, get_s, set_z, set_s, List.length_cons, List.length_nil, atI_0, atI_1, atI_2, atI_3, atI_4, ixN_5_0, ixN_5_1, ixN_5_2, ixN_5_3, ixN_5_4, D.bl.injEq, D.int.injEq, D.lst.injEq, D.tup.injEq, D.str.injEq, Sl.own.injEq, Sl.val.injEq, Option.some.injEq, exists_eq_left', exists_eq_left, exists_eq', exists_eq, or_true, true_or, or_false, false_or, CMul, CPow, natAbs_10, natAbs_2, Int.cast_ofNat_Int, Nat.reducePow, exists_and_left, exists_const, and_assoc, true_and, and_true, and_self, false_and, and_false, if_true, if_false, ite_true, ite_false, reduceCtorEq, decide_true, decide_false, decide_eq_true_eq, decide_eq_false_iff_not, Bool.not_true, Bool.not_false, Bool.false_eq_true, List.replicate_zero, List.replicate_succ, List.map_cons, List.map_nil, List.nil_append, List.cons_append, Nat.reduceSub, Nat.reduceAdd, Nat.reduceLeDiff, Nat.reduceLT, Int.reduceLT, Int.reduceLE, Int.reduceAdd, Int.reduceSub, Int.reduceMul, Int.reduceNeg, Int.reduceMod, Int.reduceDiv, Int.reducePow, Int.reduceToNat, okD_int, okD_bl, okD_lst, okD_tup, okD_non, okL_nil, okL_cons, okD_str, okL_int, eqD_int, eqD_bl, eqD_str, eqD_tup, eqD_lst, eqL_cons, eqL_nil, eqL_cn, eqL_nc, eqL_int, Bool.and_eq_true, Bool.or_eq_true, Bool.not_eq_true', Bool.and_false, Bool.false_and, Bool.or_false, Bool.false_or, Bool.or_true, Bool.true_or, Bool.and_true, Bool.true_and, Bool.and_self, wIsT2, wDct0, wLstOf, wRepF, wAsgH, DV.hN, hIx, hCons, hNil, hTup, wLM, gCnt, gIdx, gList, gSorted, wAppPop, wRaise0, wRaise1, wTry, wIsE, wAct, wFl, flD, okD_bl, hz]
              refine hP1'' _ ?_ _
              unfold fB hit
              simp [hab, hz]
            · simp only [wSeq, wAsg, wOwn, wF, wLc, wSkip, wBrk, wCnt, wRet, wRetF, wRetN, wDrop, wIfS, wPar, wFor, wWh, wV, wApp, wExt, wSetIx, wAug, wVal, wLook, wC, wOp, wTst, wChain, wAnd, wOr, wNot, wAndV, wOrV, wNotV, wIf, wNil, wCons, wTup, wLst, wCall, wCB, wIsT, wiR1, wiR2, wiSq, wiEn, wiZip, gN, gT1, gT2, gT3, gT4, gT5, gT6, gT7, wYes, gAdd, DV.gSub, gMul, gMod, gDiv, gPow, gLt, gLe, gGt, gGe, gCmp, gEq, gNe, gIs, gIsN, DV.isNon, gIn, gNotIn, gIx, gSlc, wSlc, wNoP, wPart, gLen, gAbs, gInt, gMin2, gMax2, gAll, gAny, gSum, gTuple, wNeg, wRev, itemsOf, D.isTy, D.isHand, Sl.toD, big_0, big_1, big_2, big_3, big_4, big_5, big_6, big_7, big_8, big_9, big_10, big_11, big_12, draw_iff, own_ex, val_ex, wipeE, restE, Sl.keep, Option.getD_some, get_z, get_s, set_z, set_s, List.length_cons, List.length_nil, atI_0, atI_1, atI_2, atI_3, atI_4, ixN_5_0, ixN_5_1, ixN_5_2, ixN_5_3, ixN_5_4, D.bl.injEq, D.int.injEq, D.lst.injEq, D.tup.injEq, D.str.injEq, Sl.own.injEq, Sl.val.injEq, Option.some.injEq, exists_eq_left', exists_eq_left, exists_eq', exists_eq, or_true, true_or, or_false, false_or, CMul, CPow, natAbs_10, natAbs_2, Int.cast_ofNat_Int, Nat.reducePow, exists_and_left, exists_const, and_assoc, true_and, and_true, and_self, false_and, and_false, if_true, if_false, ite_true, ite_false, reduceCtorEq, decide_true, decide_false, decide_eq_true_eq, decide_eq_false_iff_not, Bool.not_true, Bool.not_false, Bool.false_eq_true, List.replicate_zero, List.replicate_succ, List.map_cons, List.map_nil, List.nil_append, List.cons_append, Nat.reduceSub, Nat.reduceAdd, Nat.reduceLeDiff, Nat.reduceLT, Int.reduceLT, Int.reduceLE, Int.reduceAdd, Int.reduceSub, Int.reduceMul, Int.reduceNeg, Int.reduceMod, Int.reduceDiv, Int.reducePow, Int.reduceToNat, okD_int, okD_bl, okD_lst, okD_tup, okD_non, okL_nil, okL_cons, okD_str, okL_int, eqD_int, eqD_bl, eqD_str, eqD_tup, eqD_lst, eqL_cons, eqL_nil, eqL_cn, eqL_nc, eqL_int, Bool.and_eq_true, Bool.or_eq_true, Bool.not_eq_true', Bool.and_false, Bool.false_and, Bool.or_false, Bool.false_or, Bool.or_true, Bool.true_or, Bool.and_true, Bool.true_and, Bool.and_self, wIsT2, wDct0, wLstOf, wRepF, wAsgH, DV.hN, hIx, hCons, hNil, hTup, wLM, gCnt, gIdx, gList, gSorted, wAppPop, wRaise0, wRaise1, wTry, wIsE, wAct, wFl, flD, okD_bl, hz]
              refine hP2'' ?_ _ ⟨_, rfl⟩
              unfold fB hit
              simp [hab, hz]
  · rw [hw.ok] at he; cases he
theorem getD_lt {ws : List Int} {k : Nat} (h : k < ws.length) : ws.getD k 0 = ws[k] := by
  rw [List.getD_eq_getElem?_getD, List.getElem?_eq_getElem h]; rfl
/-- the gaps between neighbours' weights -/
def gapAt (ws : List Int) (p : Int) : Int := ws.getD (p % ws.length).toNat 0 - ws.getD ((p + 1) % ws.length).toNat 0
theorem atW {ws : List Int} (hl : 1 ≤ ws.length) {p : Int} (hp : 0 ≤ p) : atI (ws.map D.int) (p % ws.length) = some (.int (ws.getD (p % ws.length).toNat 0)) := by
  have h1 : 0 ≤ p % ws.length := Int.emod_nonneg _ (by omega)
  have h2 : p % ws.length < ws.length := Int.emod_lt_of_pos _ (by omega)
  obtain ⟨k, hk⟩ := Int.eq_ofNat_of_zero_le h1
  rw [hk] at h2 ⊢
  rw [atI_nat rfl, List.getElem?_map, List.getElem?_eq_getElem (by omega), Int.toNat_natCast, getD_lt (by omega)]
  rfl
theorem gap_bd {ws : List Int} (hw : Ws m ws) {p : Int} (hp : 0 ≤ p) : -m < gapAt ws p ∧ gapAt ws p < m := by
  have key : ∀ q : Int, 0 ≤ q → 0 ≤ ws.getD (q % ws.length).toNat 0 ∧ ws.getD (q % ws.length).toNat 0 < m := fun q hq => by
    have hl := hw.l1
    have h1 : 0 ≤ q % ws.length := Int.emod_nonneg _ (by omega)
    have h2 : q % ws.length < ws.length := Int.emod_lt_of_pos _ (by omega)
    rw [getD_lt (show (q % ws.length).toNat < ws.length by omega)]
    exact hw.b _ (List.getElem_mem _)
  have k1 := key p hp
  have k2 := key (p + 1) (by omega)
  unfold gapAt
  omega
def gaps (ws : List Int) (n : Int) : List Int := (rangeI 0 (n - 1)).map (gapAt ws)
theorem enumI_gaps {ws : List Int} : ∀ {k : Nat} {l : List Int}, (∀ i (h : i < l.length), l[i] = k + i) → enumI k (l.map (gapAt ws)) = l.map fun p => (p, gapAt ws p)
  | _, [], _ => rfl
  | k, x :: r, h => by
    have h0 : x = k := by have := h 0 (by simp); simpa using this
    rw [List.map_cons, enumI, List.map_cons, h0]
    congr 1
    have := enumI_gaps (ws := ws) (k := k + 1) (l := r) fun i hi => by
      have := h (i + 1) (by simp; omega)
      simp at this
      rw [this]; simp; omega
    rw [show ((k + 1 : Nat) : Int) = (k : Int) + 1 by omega] at this
    exact this
theorem enum_gaps {ws : List Int} {n : Int} : enumI 0 (gaps ws n) = (rangeI 0 (n - 1)).map fun p => (p, gapAt ws p) := by
  unfold gaps
  exact enumI_gaps (k := 0) fun i hi => by
    unfold rangeI
    simp
theorem sp_swap_told (c : Sm s m) {ws : List Int} (hw : Ws m ws) {n : Int} (n1 : 1 ≤ n) (n2 : n ≤ 24) (h : Q (least s m (enumI 0 (gaps ws n)))) : T_swap_told [.int s, .int m, .tup (ws.map D.int), .int n] Q E := by
  have w3 : within (.int n) 1 24 = true := by unfold within; simp; omega
  unfold T_swap_told wFn B_swap_told
  (try simp only [wSeq, wAsg, wOwn, wF, wLc, wSkip, wBrk, wCnt, wRet, wRetF, wRetN, wDrop, wIfS, wPar, wFor, wWh, wV, wApp, wExt, wSetIx, wAug, wVal, wLook, wC, wOp, wTst, wChain, wAnd, wOr, wNot, wAndV, wOrV, wNotV, wIf, wNil, wCons, wTup, wLst, wCall, wCB, wIsT, wiR1, wiR2, wiSq, wiEn, wiZip, gN, gT1, gT2, gT3, gT4, gT5, gT6, gT7, wYes, gAdd, DV.gSub, gMul, gMod, gDiv, gPow, gLt, gLe, gGt, gGe, gCmp, gEq, gNe, gIs, gIsN, DV.isNon, gIn, gNotIn, gIx, gSlc, wSlc, wNoP, wPart, gLen, gAbs, gInt, gMin2, gMax2, gAll, gAny, gSum, gTuple, wNeg, wRev, itemsOf, D.isTy, D.isHand, Sl.toD, big_0, big_1, big_2, big_3, big_4, big_5, big_6, big_7, big_8, big_9, big_10, big_11, big_12, draw_iff, own_ex, val_ex, wipeE, restE, Sl.keep, Option.getD_some, get_z, get_s, set_z, set_s, List.length_cons, List.length_nil, atI_0, atI_1, atI_2, atI_3, atI_4, ixN_5_0, ixN_5_1, ixN_5_2, ixN_5_3, ixN_5_4, D.bl.injEq, D.int.injEq, D.lst.injEq, D.tup.injEq, D.str.injEq, Sl.own.injEq, Sl.val.injEq, Option.some.injEq, exists_eq_left', exists_eq_left, exists_eq', exists_eq, or_true, true_or, or_false, false_or, CMul, CPow, natAbs_10, natAbs_2, Int.cast_ofNat_Int, Nat.reducePow, exists_and_left, exists_const, and_assoc, true_and, and_true, and_self, false_and, and_false, if_true, if_false, ite_true, ite_false, reduceCtorEq, decide_true, decide_false, decide_eq_true_eq, decide_eq_false_iff_not, Bool.not_true, Bool.not_false, Bool.false_eq_true, List.replicate_zero, List.replicate_succ, List.map_cons, List.map_nil, List.nil_append, List.cons_append, Nat.reduceSub, Nat.reduceAdd, Nat.reduceLeDiff, Nat.reduceLT, Int.reduceLT, Int.reduceLE, Int.reduceAdd, Int.reduceSub, Int.reduceMul, Int.reduceNeg, Int.reduceMod, Int.reduceDiv, Int.reducePow, Int.reduceToNat, okD_int, okD_bl, okD_lst, okD_tup, okD_non, okL_nil, okL_cons, okD_str, okL_int, eqD_int, eqD_bl, eqD_str, eqD_tup, eqD_lst, eqL_cons, eqL_nil, eqL_cn, eqL_nc, eqL_int, Bool.and_eq_true, Bool.or_eq_true, Bool.not_eq_true', Bool.and_false, Bool.false_and, Bool.or_false, Bool.false_or, Bool.or_true, Bool.true_or, Bool.and_true, Bool.true_and, Bool.and_self, wIsT2, wDct0, wLstOf, wRepF, wAsgH, DV.hN, hIx, hCons, hNil, hTup, wLM, gCnt, gIdx, gList, gSorted, wAppPop, wRaise0, wRaise1, wTry, wIsE, wAct, wFl, flD, okD_bl])
  refine sp_cw c rfl (fun xs e d hd => ?_) (fun _ => ?_) (fun he => ?_)
  · cases e
    obtain ⟨_, _, rfl⟩ := List.mem_map.mp hd
    rfl
  · have ⟨s1, s2, m1, m2⟩ := c
    have l1 := hw.l1
    unfold B_swap_told_2
    simp only [wSeq, wAsg, wOwn, wF, wLc, wSkip, wBrk, wCnt, wRet, wRetF, wRetN, wDrop, wIfS, wPar, wFor, wWh, wV, wApp, wExt, wSetIx, wAug, wVal, wLook, wC, wOp, wTst, wChain, wAnd, wOr, wNot, wAndV, wOrV, wNotV, wIf, wNil, wCons, wTup, wLst, wCall, wCB, wIsT, wiR1, wiR2, wiSq, wiEn, wiZip, gN, gT1, gT2, gT3, gT4, gT5, gT6, gT7, wYes, gAdd, DV.gSub, gMul, gMod, gDiv, gPow, gLt, gLe, gGt, gGe, gCmp, gEq, gNe, gIs, gIsN, DV.isNon, gIn, gNotIn, gIx, gSlc, wSlc, wNoP, wPart, gLen, gAbs, gInt, gMin2, gMax2, gAll, gAny, gSum, gTuple, wNeg, wRev, itemsOf, D.isTy, D.isHand, Sl.toD, big_0, big_1, big_2, big_3, big_4, big_5, big_6, big_7, big_8, big_9, big_10, big_11, big_12, draw_iff, own_ex, val_ex, wipeE, restE, Sl.keep, Option.getD_some, get_z, get_s, set_z, set_s, List.length_cons, List.length_nil, atI_0, atI_1, atI_2, atI_3, atI_4, ixN_5_0, ixN_5_1, ixN_5_2, ixN_5_3, ixN_5_4, D.bl.injEq, D.int.injEq, D.lst.injEq, D.tup.injEq, D.str.injEq, Sl.own.injEq, Sl.val.injEq, Option.some.injEq, exists_eq_left', exists_eq_left, exists_eq', exists_eq, or_true, true_or, or_false, false_or, CMul, CPow, natAbs_10, natAbs_2, Int.cast_ofNat_Int, Nat.reducePow, exists_and_left, exists_const, and_assoc, true_and, and_true, and_self, false_and, and_false, if_true, if_false, ite_true, ite_false, reduceCtorEq, decide_true, decide_false, decide_eq_true_eq, decide_eq_false_iff_not, Bool.not_true, Bool.not_false, Bool.false_eq_true, List.replicate_zero, List.replicate_succ, List.map_cons, List.map_nil, List.nil_append, List.cons_append, Nat.reduceSub, Nat.reduceAdd, Nat.reduceLeDiff, Nat.reduceLT, Int.reduceLT, Int.reduceLE, Int.reduceAdd, Int.reduceSub, Int.reduceMul, Int.reduceNeg, Int.reduceMod, Int.reduceDiv, Int.reducePow, Int.reduceToNat, okD_int, okD_bl, okD_lst, okD_tup, okD_non, okL_nil, okL_cons, okD_str, okL_int, eqD_int, eqD_bl, eqD_str, eqD_tup, eqD_lst, eqL_cons, eqL_nil, eqL_cn, eqL_nc, eqL_int, Bool.and_eq_true, Bool.or_eq_true, Bool.not_eq_true', Bool.and_false, Bool.false_and, Bool.or_false, Bool.false_or, Bool.or_true, Bool.true_or, Bool.and_true, Bool.true_and, Bool.and_self, wIsT2, wDct0, wLstOf, wRepF, wAsgH, DV.hN, hIx, hCons, hNil, hTup, wLM, gCnt, gIdx, gList, gSorted, wAppPop, wRaise0, wRaise1, wTry, wIsE, wAct, wFl, flD, okD_bl, sp_check_number (x := .int n) rfl, w3]
    unfold B_swap_told_3
    (try simp only [wSeq, wAsg, wOwn, wF, wLc, wSkip, wBrk, wCnt, wRet, wRetF, wRetN, wDrop, wIfS, wPar, wFor, wWh, wV, wApp, wExt, wSetIx, wAug, wVal, wLook, wC, wOp, wTst, wChain, wAnd, wOr, wNot, wAndV, wOrV, wNotV, wIf, wNil, wCons, wTup, wLst, wCall, wCB, wIsT, wiR1, wiR2, wiSq, wiEn, wiZip, gN, gT1, gT2, gT3, gT4, gT5, gT6, gT7, wYes, gAdd, DV.gSub, gMul, gMod, gDiv, gPow, gLt, gLe, gGt, gGe, gCmp, gEq, gNe, gIs, gIsN, DV.isNon, gIn, gNotIn, gIx, gSlc, wSlc, wNoP, wPart, gLen, gAbs, gInt, gMin2, gMax2, gAll, gAny, gSum, gTuple, wNeg, wRev, itemsOf, D.isTy, D.isHand, Sl.toD, big_0, big_1, big_2, big_3, big_4, big_5, big_6, big_7, big_8, big_9, big_10, big_11, big_12, draw_iff, own_ex, val_ex, wipeE, restE, Sl.keep, Option.getD_some, get_z, get_s, set_z, set_s, List.length_cons, List.length_nil, atI_0, atI_1, atI_2, atI_3, atI_4, ixN_5_0, ixN_5_1, ixN_5_2, ixN_5_3, ixN_5_4, D.bl.injEq, D.int.injEq, D.lst.injEq, D.tup.injEq, D.str.injEq, Sl.own.injEq, Sl.val.injEq, Option.some.injEq, exists_eq_left', exists_eq_left, exists_eq', exists_eq, or_true, true_or, or_false, false_or, CMul, CPow, natAbs_10, natAbs_2, Int.cast_ofNat_Int, Nat.reducePow, exists_and_left, exists_const, and_assoc, true_and, and_true, and_self, false_and, and_false, if_true, if_false, ite_true, ite_false, reduceCtorEq, decide_true, decide_false, decide_eq_true_eq, decide_eq_false_iff_not, Bool.not_true, Bool.not_false, Bool.false_eq_true, List.replicate_zero, List.replicate_succ, List.map_cons, List.map_nil, List.nil_append, List.cons_append, Nat.reduceSub, Nat.reduceAdd, Nat.reduceLeDiff, Nat.reduceLT, Int.reduceLT, Int.reduceLE, Int.reduceAdd, Int.reduceSub, Int.reduceMul, Int.reduceNeg, Int.reduceMod, Int.reduceDiv, Int.reducePow, Int.reduceToNat, okD_int, okD_bl, okD_lst, okD_tup, okD_non, okL_nil, okL_cons, okD_str, okL_int, eqD_int, eqD_bl, eqD_str, eqD_tup, eqD_lst, eqL_cons, eqL_nil, eqL_cn, eqL_nc, eqL_int, Bool.and_eq_true, Bool.or_eq_true, Bool.not_eq_true', Bool.and_false, Bool.false_and, Bool.or_false, Bool.false_or, Bool.or_true, Bool.true_or, Bool.and_true, Bool.true_and, Bool.and_self, wIsT2, wDct0, wLstOf, wRepF, wAsgH, DV.hN, hIx, hCons, hNil, hTup, wLM, gCnt, gIdx, gList, gSorted, wAppPop, wRaise0, wRaise1, wTry, wIsE, wAct, wFl, flD, okD_bl])
    refine ⟨by omega, by omega, ?_⟩
    rw [rangeD_map]
    have hh : least s m (enumI 0 (gaps ws n)) = ((rangeI 0 (n - 1)).findSome? fun p => fP s m (p, gapAt ws p)).getD (.tup [.str "seen"]) := by
      unfold least
      rw [enum_gaps, List.findSome?_map]; rfl
    rw [hh] at h
    refine for_search (fun p => fP s m (p, gapAt ws p)) (fun env => ∃ s4 s5 s6 s7, env = [.val (.int s), .val (.int m), .val (.tup (ws.map D.int)), .val (.int n), s4, s5, s6, s7]) (fun d hd e => ?_) (fun hn e he => ?_) (fun p hp env he P hP1 hP2 => ?_) ⟨_, _, _, _, rfl⟩
    · rw [hd] at h
      exact h
    · obtain ⟨s3, s4, s5, s6, rfl⟩ := he
      rw [hn] at h
      unfold B_swap_told_9
      (try simp only [wSeq, wAsg, wOwn, wF, wLc, wSkip, wBrk, wCnt, wRet, wRetF, wRetN, wDrop, wIfS, wPar, wFor, wWh, wV, wApp, wExt, wSetIx, wAug, wVal, wLook, wC, wOp, wTst, wChain, wAnd, wOr, wNot, wAndV, wOrV, wNotV, wIf, wNil, wCons, wTup, wLst, wCall, wCB, wIsT, wiR1, wiR2, wiSq, wiEn, wiZip, gN, gT1, gT2, gT3, gT4, gT5, gT6, gT7, wYes, gAdd, DV.gSub, gMul, gMod, gDiv, gPow, gLt, gLe, gGt, gGe, gCmp, gEq, gNe, gIs, gIsN, DV.isNon, gIn, gNotIn, gIx, gSlc, wSlc, wNoP, wPart, gLen, gAbs, gInt, gMin2, gMax2, gAll, gAny, gSum, gTuple, wNeg, wRev, itemsOf, D.isTy, D.isHand, Sl.toD, big_0, big_1, big_2, big_3, big_4, big_5, big_6, big_7, big_8, big_9, big_10, big_11, big_12, draw_iff, own_ex, val_ex, wipeE, restE, Sl.keep, Option.getD_some, get_z, get_s, set_z, set_s, List.length_cons, List.length_nil, atI_0, atI_1, atI_2, atI_3, atI_4, ixN_5_0, ixN_5_1, ixN_5_2, ixN_5_3, ixN_5_4, D.bl.injEq, D.int.injEq, D.lst.injEq, D.tup.injEq, D.str.injEq, Sl.own.injEq, Sl.val.injEq, Option.some.injEq, exists_eq_left', exists_eq_left, exists_eq', exists_eq, or_true, true_or, or_false, false_or, CMul, CPow, natAbs_10, natAbs_2, Int.cast_ofNat_Int, Nat.reducePow, exists_and_left, exists_const, and_assoc, true_and, and_true, and_self, false_and, and_false, if_true, if_false, ite_true, ite_false, reduceCtorEq, decide_true, decide_false, decide_eq_true_eq, decide_eq_false_iff_not, Bool.not_true, Bool.not_false, Bool.false_eq_true, List.replicate_zero, List.replicate_succ, List.map_cons, List.map_nil, List.nil_append, List.cons_append, Nat.reduceSub, Nat.reduceAdd, Nat.reduceLeDiff, Nat.reduceLT, Int.reduceLT, Int.reduceLE, Int.reduceAdd, Int.reduceSub, Int.reduceMul, Int.reduceNeg, Int.reduceMod, Int.reduceDiv, Int.reducePow, Int.reduceToNat, okD_int, okD_bl, okD_lst, okD_tup, okD_non, okL_nil, okL_cons, okD_str, okL_int, eqD_int, eqD_bl, eqD_str, eqD_tup, eqD_lst, eqL_cons, eqL_nil, eqL_cn, eqL_nc, eqL_int, Bool.and_eq_true, Bool.or_eq_true, Bool.not_eq_true', Bool.and_false, Bool.false_and, Bool.or_false, Bool.false_or, Bool.or_true, Bool.true_or, Bool.and_true, Bool.true_and, Bool.and_self, wIsT2, wDct0, wLstOf, wRepF, wAsgH, DV.hN, hIx, hCons, hNil, hTup, wLM, gCnt, gIdx, gList, gSorted, wAppPop, wRaise0, wRaise1, wTry, wIsE, wAct, wFl, flD, okD_bl])
      exact h
    · obtain ⟨s4, s5, s6, s7, rfl⟩ := he
      rw [mem_rangeI] at hp
      have g := gap_bd hw hp.1
      (try simp only [wSeq, wAsg, wOwn, wF, wLc, wSkip, wBrk, wCnt, wRet, wRetF, wRetN, wDrop, wIfS, wPar, wFor, wWh, wV, wApp, wExt, wSetIx, wAug, wVal, wLook, wC, wOp, wTst, wChain, wAnd, wOr, wNot, wAndV, wOrV, wNotV, wIf, wNil, wCons, wTup, wLst, wCall, wCB, wIsT, wiR1, wiR2, wiSq, wiEn, wiZip, gN, gT1, gT2, gT3, gT4, gT5, gT6, gT7, wYes, gAdd, DV.gSub, gMul, gMod, gDiv, gPow, gLt, gLe, gGt, gGe, gCmp, gEq, gNe, gIs, gIsN, DV.isNon, gIn, gNotIn, gIx, gSlc, wSlc, wNoP, wPart, gLen, gAbs, gInt, gMin2, gMax2, gAll, gAny, gSum, gTuple, wNeg, wRev, itemsOf, D.isTy, D.isHand, Sl.toD, big_0, big_1, big_2, big_3, big_4, big_5, big_6, big_7, big_8, big_9, big_10, big_11, big_12, draw_iff, own_ex, val_ex, wipeE, restE, Sl.keep, Option.getD_some, get_z, get_s, set_z, set_s, List.length_cons, List.length_nil, atI_0, atI_1, atI_2, atI_3, atI_4, ixN_5_0, ixN_5_1, ixN_5_2, ixN_5_3, ixN_5_4, D.bl.injEq, D.int.injEq, D.lst.injEq, D.tup.injEq, D.str.injEq, Sl.own.injEq, Sl.val.injEq, Option.some.injEq, exists_eq_left', exists_eq_left, exists_eq', exists_eq, or_true, true_or, or_false, false_or, CMul, CPow, natAbs_10, natAbs_2, Int.cast_ofNat_Int, Nat.reducePow, exists_and_left, exists_const, and_assoc, true_and, and_true, and_self, false_and, and_false, if_true, if_false, ite_true, ite_false, reduceCtorEq, decide_true, decide_false, decide_eq_true_eq, decide_eq_false_iff_not, Bool.not_true, Bool.not_false, Bool.false_eq_true, List.replicate_zero, List.replicate_succ, List.map_cons, List.map_nil, List.nil_append, List.cons_append, Nat.reduceSub, Nat.reduceAdd, Nat.reduceLeDiff, Nat.reduceLT, Int.reduceLT, Int.reduceLE, Int.reduceAdd, Int.reduceSub, Int.reduceMul, Int.reduceNeg, Int.reduceMod, Int.reduceDiv, Int.reducePow, Int.reduceToNat, okD_int, okD_bl, okD_lst, okD_tup, okD_non, okL_nil, okL_cons, okD_str, okL_int, eqD_int, eqD_bl, eqD_str, eqD_tup, eqD_lst, eqL_cons, eqL_nil, eqL_cn, eqL_nc, eqL_int, Bool.and_eq_true, Bool.or_eq_true, Bool.not_eq_true', Bool.and_false, Bool.false_and, Bool.or_false, Bool.false_or, Bool.or_true, Bool.true_or, Bool.and_true, Bool.true_and, Bool.and_self, wIsT2, wDct0, wLstOf, wRepF, wAsgH, DV.hN, hIx, hCons, hNil, hTup, wLM, gCnt, gIdx, gList, gSorted, wAppPop, wRaise0, wRaise1, wTry, wIsE, wAct, wFl, flD, okD_bl])
      unfold B_swap_told_4
      simp only [wSeq, wAsg, wOwn, wF, wLc, wSkip, wBrk, wCnt, wRet, wRetF, wRetN, wDrop, wIfS, wPar, wFor, wWh, wV, wApp, wExt, wSetIx, wAug, wVal, wLook, wC, wOp, wTst, wChain, wAnd, wOr, wNot, wAndV, wOrV, wNotV, wIf, wNil, wCons, wTup, wLst, wCall, wCB, wIsT, wiR1, wiR2, wiSq, wiEn, wiZip, gN, gT1, gT2, gT3, gT4, gT5, gT6, gT7, wYes, gAdd, DV.gSub, gMul, gMod, gDiv, gPow, gLt, gLe, gGt, gGe, gCmp, gEq, gNe, gIs, gIsN, DV.isNon, gIn, gNotIn, gIx, gSlc, wSlc, wNoP, wPart, gLen, gAbs, gInt, gMin2, gMax2, gAll, gAny, gSum, gTuple, wNeg, wRev, itemsOf, D.isTy, D.isHand, Sl.toD, big_0, big_1, big_2, big_3, big_4, big_5, big_6, big_7, big_8, big_9, big_10, big_11, big_12, draw_iff, own_ex, val_ex, wipeE, restE, Sl.keep, Option.getD_some, get_z, get_s, set_z, set_s, List.length_cons, List.length_nil, atI_0, atI_1, atI_2, atI_3, atI_4, ixN_5_0, ixN_5_1, ixN_5_2, ixN_5_3, ixN_5_4, D.bl.injEq, D.int.injEq, D.lst.injEq, D.tup.injEq, D.str.injEq, Sl.own.injEq, Sl.val.injEq, Option.some.injEq, exists_eq_left', exists_eq_left, exists_eq', exists_eq, or_true, true_or, or_false, false_or, CMul, CPow, natAbs_10, natAbs_2, Int.cast_ofNat_Int, Nat.reducePow, exists_and_left, exists_const, and_assoc, true_and, and_true, and_self, false_and, and_false, if_true, if_false, ite_true, ite_false, reduceCtorEq, decide_true, decide_false, decide_eq_true_eq, decide_eq_false_iff_not, Bool.not_true, Bool.not_false, Bool.false_eq_true, List.replicate_zero, List.replicate_succ, List.map_cons, List.map_nil, List.nil_append, List.cons_append, Nat.reduceSub, Nat.reduceAdd, Nat.reduceLeDiff, Nat.reduceLT, Int.reduceLT, Int.reduceLE, Int.reduceAdd, Int.reduceSub, Int.reduceMul, Int.reduceNeg, Int.reduceMod, Int.reduceDiv, Int.reducePow, Int.reduceToNat, okD_int, okD_bl, okD_lst, okD_tup, okD_non, okL_nil, okL_cons, okD_str, okL_int, eqD_int, eqD_bl, eqD_str, eqD_tup, eqD_lst, eqL_cons, eqL_nil, eqL_cn, eqL_nc, eqL_int, Bool.and_eq_true, Bool.or_eq_true, Bool.not_eq_true', Bool.and_false, Bool.false_and, Bool.or_false, Bool.false_or, Bool.or_true, Bool.true_or, Bool.and_true, Bool.true_and, Bool.and_self, wIsT2, wDct0, wLstOf, wRepF, wAsgH, DV.hN, hIx, hCons, hNil, hTup, wLM, gCnt, gIdx, gList, gSorted, wAppPop, wRaise0, wRaise1, wTry, wIsE, wAct, wFl, flD, okD_bl, List.length_map, atW l1 hp.1, atW l1 (show 0 ≤ p + 1 by omega)]
      refine ⟨by omega, by omega, ?_⟩
      rw [show ws.getD (p % ws.length).toNat 0 - ws.getD ((p + 1) % ws.length).toNat 0 = gapAt ws p from rfl]
      unfold B_swap_told_5
      generalize hg : gapAt ws p = w at *
      (try simp only [wSeq, wAsg, wOwn, wF, wLc, wSkip, wBrk, wCnt, wRet, wRetF, wRetN, wDrop, wIfS, wPar, wFor, wWh, wV, wApp, wExt, wSetIx, wAug, wVal, wLook, wC, wOp, wTst, wChain, wAnd, wOr, wNot, wAndV, wOrV, wNotV, wIf, wNil, wCons, wTup, wLst, wCall, wCB, wIsT, wiR1, wiR2, wiSq, wiEn, wiZip, gN, gT1, gT2, gT3, gT4, gT5, gT6, gT7, wYes, gAdd, DV.gSub, gMul, gMod, gDiv, gPow, gLt, gLe, gGt, gGe, gCmp, gEq, gNe, gIs, gIsN, DV.isNon, gIn, gNotIn, gIx, gSlc, wSlc, wNoP, wPart, gLen, gAbs, gInt, gMin2, gMax2, gAll, gAny, gSum, gTuple, wNeg, wRev, itemsOf, D.isTy, D.isHand, Sl.toD, big_0, big_1, big_2, big_3, big_4, big_5, big_6, big_7, big_8, big_9, big_10, big_11, big_12, draw_iff, own_ex, val_ex, wipeE, restE, Sl.keep, Option.getD_some, get_z, get_s, set_z, set_s, List.length_cons, List.length_nil, atI_0, atI_1, atI_2, atI_3, atI_4, ixN_5_0, ixN_5_1, ixN_5_2, ixN_5_3, ixN_5_4, D.bl.injEq, D.int.injEq, D.lst.injEq, D.tup.injEq, D.str.injEq, Sl.own.injEq, Sl.val.injEq, Option.some.injEq, exists_eq_left', exists_eq_left, exists_eq', exists_eq, or_true, true_or, or_false, false_or, CMul, CPow, natAbs_10, natAbs_2, Int.cast_ofNat_Int, Nat.reducePow, exists_and_left, exists_const, and_assoc, true_and, and_true, and_self, false_and, and_false, if_true, if_false, ite_true, ite_false, reduceCtorEq, decide_true, decide_false, decide_eq_true_eq, decide_eq_false_iff_not, Bool.not_true, Bool.not_false, Bool.false_eq_true, List.replicate_zero, List.replicate_succ, List.map_cons, List.map_nil, List.nil_append, List.cons_append, Nat.reduceSub, Nat.reduceAdd, Nat.reduceLeDiff, Nat.reduceLT, Int.reduceLT, Int.reduceLE, Int.reduceAdd, Int.reduceSub, Int.reduceMul, Int.reduceNeg, Int.reduceMod, Int.reduceDiv, Int.reducePow, Int.reduceToNat, okD_int, okD_bl, okD_lst, okD_tup, okD_non, okL_nil, okL_cons, okD_str, okL_int, eqD_int, eqD_bl, eqD_str, eqD_tup, eqD_lst, eqL_cons, eqL_nil, eqL_cn, eqL_nc, eqL_int, Bool.and_eq_true, Bool.or_eq_true, Bool.not_eq_true', Bool.and_false, Bool.false_and, Bool.or_false, Bool.false_or, Bool.or_true, Bool.true_or, Bool.and_true, Bool.true_and, Bool.and_self, wIsT2, wDct0, wLstOf, wRepF, wAsgH, DV.hN, hIx, hCons, hNil, hTup, wLM, gCnt, gIdx, gList, gSorted, wAppPop, wRaise0, wRaise1, wTry, wIsE, wAct, wFl, flD, okD_bl])
      refine ⟨by omega, by omega, ?_⟩
      rw [rangeD_map]
      refine for_search (fA s m w p) (fun env => ∃ s6 s7, env = [.val (.int s), .val (.int m), .val (.tup (ws.map D.int)), .val (.int n), .val (.int p), .val (.int w), s6, s7]) (fun d hd e => hP1 d (by rw [← hd]; rfl) e) (fun hn e he => ?_) (fun a ha env he P' hP1' hP2' => ?_) ⟨_, _, rfl⟩
      · obtain ⟨s5, s6, rfl⟩ := he
        exact hP2 (by rw [← hn]; rfl) _ ⟨_, _, _, _, rfl⟩
      · obtain ⟨s5, s6, rfl⟩ := he
        rw [mem_rangeI] at ha
        (try simp only [wSeq, wAsg, wOwn, wF, wLc, wSkip, wBrk, wCnt, wRet, wRetF, wRetN, wDrop, wIfS, wPar, wFor, wWh, wV, wApp, wExt, wSetIx, wAug, wVal, wLook, wC, wOp, wTst, wChain, wAnd, wOr, wNot, wAndV, wOrV, wNotV, wIf, wNil, wCons, wTup, wLst, wCall, wCB, wIsT, wiR1, wiR2, wiSq, wiEn, wiZip, gN, gT1, gT2, gT3, gT4, gT5, gT6, gT7, wYes, gAdd, DV.gSub, gMul, gMod, gDiv, gPow, gLt, gLe, gGt, gGe, gCmp, gEq, gNe, gIs, gIsN, DV.isNon, gIn, gNotIn, gIx, gSlc, wSlc, wNoP, wPart, gLen, gAbs, gInt, gMin2, gMax2, gAll, gAny, gSum, gTuple, wNeg, wRev, itemsOf, D.isTy, D.isHand, Sl.toD, big_0, big_1, big_2, big_3, big_4, big_5, big_6, big_7, big_8, big_9, big_10, big_11, big_12, draw_iff, own_ex, val_ex, wipeE, restE, Sl.keep, Option.getD_some, get_z, get_s, set_z, set_s, List.length_cons, List.length_nil, atI_0, atI_1, atI_2, atI_3, atI_4, ixN_5_0, ixN_5_1, ixN_5_2, ixN_5_3, ixN_5_4, D.bl.injEq, D.int.injEq, D.lst.injEq, D.tup.injEq, D.str.injEq, Sl.own.injEq, Sl.val.injEq, Option.some.injEq, exists_eq_left', exists_eq_left, exists_eq', exists_eq, or_true, true_or, or_false, false_or, CMul, CPow, natAbs_10, natAbs_2, Int.cast_ofNat_Int, Nat.reducePow, exists_and_left, exists_const, and_assoc, true_and, and_true, and_self, false_and, and_false, if_true, if_false, ite_true, ite_false, reduceCtorEq, decide_true, decide_false, decide_eq_true_eq, decide_eq_false_iff_not, Bool.not_true, Bool.not_false, Bool.false_eq_true, List.replicate_zero, List.replicate_succ, List.map_cons, List.map_nil, List.nil_append, List.cons_append, Nat.reduceSub, Nat.reduceAdd, Nat.reduceLeDiff, Nat.reduceLT, Int.reduceLT, Int.reduceLE, Int.reduceAdd, Int.reduceSub, Int.reduceMul, Int.reduceNeg, Int.reduceMod, Int.reduceDiv, Int.reducePow, Int.reduceToNat, okD_int, okD_bl, okD_lst, okD_tup, okD_non, okL_nil, okL_cons, okD_str, okL_int, eqD_int, eqD_bl, eqD_str, eqD_tup, eqD_lst, eqL_cons, eqL_nil, eqL_cn, eqL_nc, eqL_int, Bool.and_eq_true, Bool.or_eq_true, Bool.not_eq_true', Bool.and_false, Bool.false_and, Bool.or_false, Bool.false_or, Bool.or_true, Bool.true_or, Bool.and_true, Bool.true_and, Bool.and_self, wIsT2, wDct0, wLstOf, wRepF, wAsgH, DV.hN, hIx, hCons, hNil, hTup, wLM, gCnt, gIdx, gList, gSorted, wAppPop, wRaise0, wRaise1, wTry, wIsE, wAct, wFl, flD, okD_bl])
        unfold B_swap_told_6
        (try simp only [wSeq, wAsg, wOwn, wF, wLc, wSkip, wBrk, wCnt, wRet, wRetF, wRetN, wDrop, wIfS, wPar, wFor, wWh, wV, wApp, wExt, wSetIx, wAug, wVal, wLook, wC, wOp, wTst, wChain, wAnd, wOr, wNot, wAndV, wOrV, wNotV, wIf, wNil, wCons, wTup, wLst, wCall, wCB, wIsT, wiR1, wiR2, wiSq, wiEn, wiZip, gN, gT1, gT2, gT3, gT4, gT5, gT6, gT7, wYes, gAdd, DV.gSub, gMul, gMod, gDiv, gPow, gLt, gLe, gGt, gGe, gCmp, gEq, gNe, gIs, gIsN, DV.isNon, gIn, gNotIn, gIx, gSlc, wSlc, wNoP, wPart, gLen, gAbs, gInt, gMin2, gMax2, gAll, gAny, gSum, gTuple, wNeg, wRev, itemsOf, D.isTy, D.isHand, Sl.toD, big_0, big_1, big_2, big_3, big_4, big_5, big_6, big_7, big_8, big_9, big_10, big_11, big_12, draw_iff, own_ex, val_ex, wipeE, restE, Sl.keep, Option.getD_some, get_z, get_s, set_z, set_s, List.length_cons, List.length_nil, atI_0, atI_1, atI_2, atI_3, atI_4, ixN_5_0, ixN_5_1, ixN_5_2, ixN_5_3, ixN_5_4, D.bl.injEq, D.int.injEq, D.lst.injEq, D.tup.injEq, D.str.injEq, Sl.own.injEq, Sl.val.injEq, Option.some.injEq, exists_eq_left', exists_eq_left, exists_eq', exists_eq, or_true, true_or, or_false, false_or, CMul, CPow, natAbs_10, natAbs_2, Int.cast_ofNat_Int, Nat.reducePow, exists_and_left, exists_const, and_assoc, true_and, and_true, and_self, false_and, and_false, if_true, if_false, ite_true, ite_false, reduceCtorEq, decide_true, decide_false, decide_eq_true_eq, decide_eq_false_iff_not, Bool.not_true, Bool.not_false, Bool.false_eq_true, List.replicate_zero, List.replicate_succ, List.map_cons, List.map_nil, List.nil_append, List.cons_append, Nat.reduceSub, Nat.reduceAdd, Nat.reduceLeDiff, Nat.reduceLT, Int.reduceLT, Int.reduceLE, Int.reduceAdd, Int.reduceSub, Int.reduceMul, Int.reduceNeg, Int.reduceMod, Int.reduceDiv, Int.reducePow, Int.reduceToNat, okD_int, okD_bl, okD_lst, okD_tup, okD_non, okL_nil, okL_cons, okD_str, okL_int, eqD_int, eqD_bl, eqD_str, eqD_tup, eqD_lst, eqL_cons, eqL_nil, eqL_cn, eqL_nc, eqL_int, Bool.and_eq_true, Bool.or_eq_true, Bool.not_eq_true', Bool.and_false, Bool.false_and, Bool.or_false, Bool.false_or, Bool.or_true, Bool.true_or, Bool.and_true, Bool.true_and, Bool.and_self, wIsT2, wDct0, wLstOf, wRepF, wAsgH, DV.hN, hIx, hCons, hNil, hTup, wLM, gCnt, gIdx, gList, gSorted, wAppPop, wRaise0, wRaise1, wTry, wIsE, wAct, wFl, flD, okD_bl])
        refine ⟨by omega, by omega, ?_⟩
        rw [rangeD_map]
        refine for_search (fB m w p a) (fun env => ∃ s7, env = [.val (.int s), .val (.int m), .val (.tup (ws.map D.int)), .val (.int n), .val (.int p), .val (.int w), .val (.int a), s7]) (fun d hd e => hP1' d hd e) (fun hn e he => ?_) (fun b hb env he P'' hP1'' hP2'' => ?_) ⟨_, rfl⟩
        · obtain ⟨s6, rfl⟩ := he
          exact hP2' hn _ ⟨_, _, rfl⟩
        · obtain ⟨s6, rfl⟩ := he
          rw [mem_rangeI] at hb
          (try simp only [wSeq, wAsg, wOwn, wF, wLc, wSkip, wBrk, wCnt, wRet, wRetF, wRetN, wDrop, wIfS, wPar, wFor, wWh, wV, wApp, wExt, wSetIx, wAug, wVal, wLook, wC, wOp, wTst, wChain, wAnd, wOr, wNot, wAndV, wOrV, wNotV, wIf, wNil, wCons, wTup, wLst, wCall, wCB, wIsT, wiR1, wiR2, wiSq, wiEn, wiZip, gN, gT1, gT2, gT3, gT4, gT5, gT6, gT7, wYes, gAdd, DV.gSub, gMul, gMod, gDiv, gPow, gLt, gLe, gGt, gGe, gCmp, gEq, gNe, gIs, gIsN, DV.isNon, gIn, gNotIn, gIx, gSlc, wSlc, wNoP, wPart, gLen, gAbs, gInt, gMin2, gMax2, gAll, gAny, gSum, gTuple, wNeg, wRev, itemsOf, D.isTy, D.isHand, Sl.toD, big_0, big_1, big_2, big_3, big_4, big_5, big_6, big_7, big_8, big_9, big_10, big_11, big_12, draw_iff, own_ex, val_ex, wipeE, restE, Sl.keep, Option.getD_some, get_z, get_s, set_z, set_s, List.length_cons, List.length_nil, atI_0, atI_1, atI_2, atI_3, atI_4, ixN_5_0, ixN_5_1, ixN_5_2, ixN_5_3, ixN_5_4, D.bl.injEq, D.int.injEq, D.lst.injEq, D.tup.injEq, D.str.injEq, Sl.own.injEq, Sl.val.injEq, Option.some.injEq, exists_eq_left', exists_eq_left, exists_eq', exists_eq, or_true, true_or, or_false, false_or, CMul, CPow, natAbs_10, natAbs_2, Int.cast_ofNat_Int, Nat.reducePow, exists_and_left, exists_const, and_assoc, true_and, and_true, and_self, false_and, and_false, if_true, if_false, ite_true, ite_false, reduceCtorEq, decide_true, decide_false, decide_eq_true_eq, decide_eq_false_iff_not, Bool.not_true, Bool.not_false, Bool.false_eq_true, List.replicate_zero, List.replicate_succ, List.map_cons, List.map_nil, List.nil_append, List.cons_append, Nat.reduceSub, Nat.reduceAdd, Nat.reduceLeDiff, Nat.reduceLT, Int.reduceLT, Int.reduceLE, Int.reduceAdd, Int.reduceSub, Int.reduceMul, Int.reduceNeg, Int.reduceMod, Int.reduceDiv, Int.reducePow, Int.reduceToNat, okD_int, okD_bl, okD_lst, okD_tup, okD_non, okL_nil, okL_cons, okD_str, okL_int, eqD_int, eqD_bl, eqD_str, eqD_tup, eqD_lst, eqL_cons, eqL_nil, eqL_cn, eqL_nc, eqL_int, Bool.and_eq_true, Bool.or_eq_true, Bool.not_eq_true', Bool.and_false, Bool.false_and, Bool.or_false, Bool.false_or, Bool.or_true, Bool.true_or, Bool.and_true, Bool.true_and, Bool.and_self, wIsT2, wDct0, wLstOf, wRepF, wAsgH, DV.hN, hIx, hCons, hNil, hTup, wLM, gCnt, gIdx, gList, gSorted, wAppPop, wRaise0, wRaise1, wTry, wIsE, wAct, wFl, flD, okD_bl])
          unfold B_swap_told_7
          by_cases hab : a = b
          · simp only [wSeq, wAsg, wOwn, wF, wLc, wSkip, wBrk, wCnt, wRet, wRetF, wRetN, wDrop, wIfS, wPar, wFor, wWh, wV, wApp, wExt, wSetIx, wAug, wVal, wLook, wC, wOp, wTst, wChain, wAnd, wOr, wNot, wAndV, wOrV, wNotV, wIf, wNil, wCons, wTup, wLst, wCall, wCB, wIsT, wiR1, wiR2, wiSq, wiEn, wiZip, gN, gT1, gT2, gT3, gT4, gT5, gT6, gT7, wYes, gAdd, DV.gSub, gMul, gMod, gDiv, gPow, gLt, gLe, gGt, gGe, gCmp, gEq, gNe, gIs, gIsN, DV.isNon, gIn, gNotIn, gIx, gSlc, wSlc, wNoP, wPart, gLen, gAbs, gInt, gMin2, gMax2, gAll, gAny, gSum, gTuple, wNeg, wRev, itemsOf, D.isTy, D.isHand, Sl.toD, big_0, big_1, big_2, big_3, big_4, big_5, big_6, big_7, big_8, big_9, big_10, big_11, big_12, draw_iff, own_ex, val_ex, wipeE, restE, Sl.keep, Option.getD_some, get_z, get_s, set_z, set_s, List.length_cons, List.length_nil, atI_0, atI_1, atI_2, atI_3, atI_4, ixN_5_0, ixN_5_1, ixN_5_2, ixN_5_3, ixN_5_4, D.bl.injEq, D.int.injEq, D.lst.injEq, D.tup.injEq, D.str.injEq, Sl.own.injEq, Sl.val.injEq, Option.some.injEq, exists_eq_left', exists_eq_left, exists_eq', exists_eq, or_true, true_or, or_false, false_or, CMul, CPow, natAbs_10, natAbs_2, Int.cast_ofNat_Int, Nat.reducePow, exists_and_left, exists_const, and_assoc, true_and, and_true, and_self, false_and, and_false, if_true, if_false, ite_true, ite_false, reduceCtorEq, decide_true, decide_false, decide_eq_true_eq, decide_eq_false_iff_not, Bool.not_true, Bool.not_false, Bool.false_eq_true, List.replicate_zero, List.replicate_succ, List.map_cons, List.map_nil, List.nil_append, List.cons_append, Nat.reduceSub, Nat.reduceAdd, Nat.reduceLeDiff, Nat.reduceLT, Int.reduceLT, Int.reduceLE, Int.reduceAdd, Int.reduceSub, Int.reduceMul, Int.reduceNeg, Int.reduceMod, Int.reduceDiv, Int.reducePow, Int.reduceToNat, okD_int, okD_bl, okD_lst, okD_tup, okD_non, okL_nil, okL_cons, okD_str, okL_int, eqD_int, eqD_bl, eqD_str, eqD_tup, eqD_lst, eqL_cons, eqL_nil, eqL_cn, eqL_nc, eqL_int, Bool.and_eq_true, Bool.or_eq_true, Bool.not_eq_true', Bool.and_false, Bool.false_and, Bool.or_false, Bool.false_or, Bool.or_true, Bool.true_or, Bool.and_true, Bool.true_and, Bool.and_self, wIsT2, wDct0, wLstOf, wRepF, wAsgH, DV.hN, hIx, hCons, hNil, hTup, wLM, gCnt, gIdx, gList, gSorted, wAppPop, wRaise0, wRaise1, wTry, wIsE, wAct, wFl, flD, okD_bl, hab]
            refine hP2'' ?_ _ ⟨_, by rw [hab]⟩
            unfold fB hit
            simp [hab]
          · simp only [wSeq, wAsg, wOwn, wF, wLc, wSkip, wBrk, wCnt, wRet, wRetF, wRetN, wDrop, wIfS, wPar, wFor, wWh, wV, wApp, wExt, wSetIx, wAug, wVal, wLook, wC, wOp, wTst, wChain, wAnd, wOr, wNot, wAndV, wOrV, wNotV, wIf, wNil, wCons, wTup, wLst, wCall, wCB, wIsT, wiR1, wiR2, wiSq, wiEn, wiZip, gN, gT1, gT2, gT3, gT4, gT5, gT6, gT7, wYes, gAdd, DV.gSub, gMul, gMod, gDiv, gPow, gLt, gLe, gGt, gGe, gCmp, gEq, gNe, gIs, gIsN, DV.isNon, gIn, gNotIn, gIx, gSlc, wSlc, wNoP, wPart, gLen, gAbs, gInt, gMin2, gMax2, gAll, gAny, gSum, gTuple, wNeg, wRev, itemsOf, D.isTy, D.isHand, Sl.toD, big_0, big_1, big_2, big_3, big_4, big_5, big_6, big_7, big_8, big_9, big_10, big_11, big_12, draw_iff, own_ex, val_ex, wipeE, restE, Sl.keep, Option.getD_some, get_z, get_s, set_z, set_s, List.length_cons, List.length_nil, atI_0, atI_1, atI_2, atI_3, atI_4, ixN_5_0, ixN_5_1, ixN_5_2, ixN_5_3, ixN_5_4, D.bl.injEq, D.int.injEq, D.lst.injEq, D.tup.injEq, D.str.injEq, Sl.own.injEq, Sl.val.injEq, Option.some.injEq, exists_eq_left', exists_eq_left, exists_eq', exists_eq, or_true, true_or, or_false, false_or, CMul, CPow, natAbs_10, natAbs_2, Int.cast_ofNat_Int, Nat.reducePow, exists_and_left, exists_const, and_assoc, true_and, and_true, and_self, false_and, and_false, if_true, if_false, ite_true, ite_false, reduceCtorEq, decide_true, decide_false, decide_eq_true_eq, decide_eq_false_iff_not, Bool.not_true, Bool.not_false, Bool.false_eq_true, List.replicate_zero, List.replicate_succ, List.map_cons, List.map_nil, List.nil_append, List.cons_append, Nat.reduceSub, Nat.reduceAdd, Nat.reduceLeDiff, Nat.reduceLT, Int.reduceLT, Int.reduceLE, Int.reduceAdd, Int.reduceSub, Int.reduceMul, Int.reduceNeg, Int.reduceMod, Int.reduceDiv, Int.reducePow, Int.reduceToNat, okD_int, okD_bl, okD_lst, okD_tup, okD_non, okL_nil, okL_cons, okD_str, okL_int, eqD_int, eqD_bl, eqD_str, eqD_tup, eqD_lst, eqL_cons, eqL_nil, eqL_cn, eqL_nc, eqL_int, Bool.and_eq_true, Bool.or_eq_true, Bool.not_eq_true', Bool.and_false, Bool.false_and, Bool.or_false, Bool.false_or, Bool.or_true, Bool.true_or, Bool.and_true, Bool.true_and, Bool.and_self, wIsT2, wDct0, wLstOf, wRepF, wAsgH, DV.hN, hIx, hCons, hNil, hTup, wLM, gCnt, gIdx, gList, gSorted, wAppPop, wRaise0, wRaise1, wTry, wIsE, wAct, wFl, flD, okD_bl, hab]
            refine ⟨.inl ⟨by omega, by omega⟩, ?_⟩
            rw [sp_is_unseen (by omega)]
            by_cases hz : (a - b) * w % m = 0
            · simp only [wSeq, wAsg, wOwn, wF, wLc, wSkip, wBrk, wCnt, wRet, wRetF, wRetN, wDrop, wIfS, wPar, wFor, wWh, wV, wApp, wExt, wSetIx, wAug, wVal, wLook, wC, wOp, wTst, wChain, wAnd, wOr, wNot, wAndV, wOrV, wNotV, wIf, wNil, wCons, wTup, wLst, wCall, wCB, wIsT, wiR1, wiR2, wiSq, wiEn, wiZip, gN, gT1, gT2, gT3, gT4, gT5, gT6, gT7, wYes, gAdd, DV.gSub, gMul, gMod, gDiv, gPow, gLt, gLe, gGt, gGe, gCmp, gEq, gNe, gIs, gIsN, DV.isNon, gIn, gNotIn, gIx, gSlc, wSlc, wNoP, wPart, gLen, gAbs, gInt, gMin2, gMax2, gAll, gAny, gSum, gTuple, wNeg, wRev, itemsOf, D.isTy, D.isHand, Sl.toD, big_0, big_1, big_2, big_3, big_4, big_5, big_6, big_7, big_8, big_9, big_10, big_11, big_12, draw_iff, own_ex, val_ex, wipeE, restE, Sl.keep, Option.getD_some, get_z, get_s, set_z, set_s, List.length_cons, List.length_nil, atI_0, atI_1, atI_2, atI_3, atI_4, ixN_5_0, ixN_5_1, ixN_5_2, ixN_5_3, ixN_5_4, D.bl.injEq, D.int.injEq, D.lst.injEq, D.tup.injEq, D.str.injEq, Sl.own.injEq, Sl.val.injEq, Option.some.injEq, exists_eq_left', exists_eq_left, exists_eq', exists_eq, or_true, true_or, or_false, false_or, CMul, CPow, natAbs_10, natAbs_2, Int.cast_ofNat_Int, Nat.reducePow, exists_and_left, exists_const, and_assoc, true_and, and_true, and_self, false_and, and_false, if_true, if_false, ite_true, ite_false, reduceCtorEq, decide_true, decide_false, decide_eq_true_eq, decide_eq_false_iff_not, Bool.not_true, Bool.not_false, Bool.false_eq_true, List.replicate_zero, List.replicate_succ, List.map_cons, List.map_nil, List.nil_append, List.cons_append, Nat.reduceSub, Nat.reduceAdd, Nat.reduceLeDiff, Nat.reduceLT, Int.reduceLT, Int.reduceLE, Int.reduceAdd, Int.reduceSub, Int.reduceMul, Int.reduceNeg, Int.reduceMod, Int.reduceDiv, Int.reducePow, Int.reduceToNat, okD_int, okD_bl, okD_lst, okD_tup, okD_non, okL_nil, okL_cons, okD_str, okL_int, eqD_int, eqD_bl, eqD_str, eqD_tup, eqD_lst, eqL_cons, eqL_nil, eqL_cn, eqL_nc, eqL_int, Bool.and_eq_true, Bool.or_eq_true, Bool.not_eq_true', Bool.and_false, Bool.false_and, Bool.or_false, Bool.false_or, Bool.or_true, Bool.true_or, Bool.and_true, Bool.true_and, Bool.and_self, wIsT2, wDct0, wLstOf, wRepF, wAsgH, DV.hN, hIx, hCons, hNil, hTup, wLM, gCnt, gIdx, gList, gSorted, wAppPop, wRaise0, wRaise1, wTry, wIsE, wAct, wFl, flD, okD_bl, hz]
              refine hP1'' _ ?_ _
              unfold fB hit
              simp [hab, hz]
            · simp only [wSeq, wAsg, wOwn, wF, wLc, wSkip, wBrk, wCnt, wRet, wRetF, wRetN, wDrop, wIfS, wPar, wFor, wWh, wV, wApp, wExt, wSetIx, wAug, wVal, wLook, wC, wOp, wTst, wChain, wAnd, wOr, wNot, wAndV, wOrV, wNotV, wIf, wNil, wCons, wTup, wLst, wCall, wCB, wIsT, wiR1, wiR2, wiSq, wiEn, wiZip, gN, gT1, gT2, gT3, gT4, gT5, gT6, gT7, wYes, gAdd, DV.gSub, gMul, gMod, gDiv, gPow, gLt, gLe, gGt, gGe, gCmp, gEq, gNe, gIs, gIsN, DV.isNon, gIn, gNotIn, gIx, gSlc, wSlc, wNoP, wPart, gLen, gAbs, gInt, gMin2, gMax2, gAll, gAny, gSum, gTuple, wNeg, wRev, itemsOf, D.isTy, D.isHand, Sl.toD, big_0, big_1, big_2, big_3, big_4, big_5, big_6, big_7, big_8, big_9, big_10, big_11, big_12, draw_iff, own_ex, val_ex, wipeE, restE, Sl.keep, Option.getD_some, get_z, get_s, set_z, set_s, List.length_cons, List.length_nil, atI_0, atI_1, atI_2, atI_3, atI_4, ixN_5_0, ixN_5_1, ixN_5_2, ixN_5_3, ixN_5_4, D.bl.injEq, D.int.injEq, D.lst.injEq, D.tup.injEq, D.str.injEq, Sl.own.injEq, Sl.val.injEq, Option.some.injEq, exists_eq_left', exists_eq_left, exists_eq', exists_eq, or_true, true_or, or_false, false_or, CMul, CPow, natAbs_10, natAbs_2, Int.cast_ofNat_Int, Nat.reducePow, exists_and_left, exists_const, and_assoc, true_and, and_true, and_self, false_and, and_false, if_true, if_false, ite_true, ite_false, reduceCtorEq, decide_true, decide_false, decide_eq_true_eq, decide_eq_false_iff_not, Bool.not_true, Bool.not_false, Bool.false_eq_true, List.replicate_zero, List.replicate_succ, List.map_cons, List.map_nil, List.nil_append, List.cons_append, Nat.reduceSub, Nat.reduceAdd, Nat.reduceLeDiff, Nat.reduceLT, Int.reduceLT, Int.reduceLE, Int.reduceAdd, Int.reduceSub, Int.reduceMul, Int.reduceNeg, Int.reduceMod, Int.reduceDiv, Int.reducePow, Int.reduceToNat, okD_int, okD_bl, okD_lst, okD_tup, okD_non, okL_nil, okL_cons, okD_str, okL_int, eqD_int, eqD_bl, eqD_str, eqD_tup, eqD_lst, eqL_cons, eqL_nil, eqL_cn, eqL_nc, eqL_int, Bool.and_eq_true, Bool.or_eq_true, Bool.not_eq_true', Bool.and_false, Bool.false_and, Bool.or_false, Bool.false_or, Bool.or_true, Bool.true_or, Bool.and_true, Bool.true_and, Bool.and_self, wIsT2, wDct0, wLstOf, wRepF, wAsgH, DV.hN, hIx, hCons, hNil, hTup, wLM, gCnt, gIdx, gList, gSorted, wAppPop, wRaise0, wRaise1, wTry, wIsE, wAct, wFl, flD, okD_bl, hz]
              refine hP2'' ?_ _ ⟨_, rfl⟩
              unfold fB hit
              simp [hab, hz]
  · rw [hw.ok] at he; cases he
end
end Law

set_option Elab.async false
set_option linter.all false
set_option maxRecDepth 100000
namespace Law
open PySem PySem.Spec PyProof.Rows L2 DV
section
variable {Q : D → Prop} {E : Er → Prop}
/-- data that _law_is finds alike -/
def isOk : Nat → D → Prop
  | 0, _ => False
  | _ + 1, .non => True
  | _ + 1, .bl _ => True
  | _ + 1, .int _ => True
  | _ + 1, .str s => okD (.str s) 60 = true
  | n + 1, .tup xs => xs.length ≤ big ∧ ∀ x ∈ xs, isOk n x
  | n + 1, .lst xs => xs.length ≤ big ∧ ∀ x ∈ xs, isOk n x
  | _ + 1, .dct _ => False
  | _ + 1, .obj _ _ => False
  | _ + 1, .frz _ => False
  | _ + 1, .hand => False
theorem zipD_self : ∀ xs : List D, zipD xs xs = xs.map fun x => .tup [x, x]
  | [] => rfl
  | x :: xs => by rw [zipD, List.map_cons, zipD_self xs]
theorem sp_law_is : ∀ {n : Nat} {x : D} {Q : D → Prop} {E : Er → Prop}, isOk n x → Q (.bl true) → T__law_is n [x, x] Q E
  | 0, _, _, _, h, _ => h.elim
  | n + 1, x, Q, E, h, q => by
    have seq : ∀ xs : List D, (∀ y ∈ xs, isOk n y) → ∀ K : List D → DV.Env → Prop, K (xs.map fun _ => .bl true) [.val x, .val x, .no, .no] →
        lcGo (DV.gTup 2 (DV.gCons (gN 2) (DV.gCons (gN 3) DV.gNil))) wYes (wCall 2 (T__law_is n) (wCons (wVal 2) (wCons (wVal 3) wNil))) [2, 3] (zipD xs xs) [] [.val x, .val x, .no, .no] K := by
      intro xs hx K hk
      rw [zipD_self]
      refine lc_map (fun _ => .bl true) (fun y hy K' hk' => ?_) (by rw [List.nil_append, List.map_map]; exact hk)
      obtain ⟨z, hz, rfl⟩ := List.mem_map.mp hy
      (try simp only [wSeq, wAsg, wOwn, wF, wLc, wSkip, wBrk, wCnt, wRet, wRetF, wRetN, wDrop, wIfS, wPar, wFor, wWh, wV, wApp, wExt, wSetIx, wAug, wVal, wLook, wC, wOp, wTst, wChain, wAnd, wOr, wNot, wAndV, wOrV, wNotV, wIf, wNil, wCons, wTup, wLst, wCall, wCB, wIsT, wiR1, wiR2, wiSq, wiEn, wiZip, gN, gT1, gT2, gT3, gT4, gT5, gT6, gT7, wYes, gAdd, DV.gSub, gMul, gMod, gDiv, gPow, gLt, gLe, gGt, gGe, gCmp, gEq, gNe, gIs, gIsN, DV.isNon, gIn, gNotIn, gIx, gSlc, wSlc, wNoP, wPart, gLen, gAbs, gInt, gMin2, gMax2, gAll, gAny, gSum, gTuple, wNeg, wRev, itemsOf, D.isTy, D.isHand, Sl.toD, big_0, big_1, big_2, big_3, big_4, big_5, big_6, big_7, big_8, big_9, big_10, big_11, big_12, draw_iff, own_ex, val_ex, wipeE, restE, Sl.keep, Option.getD_some, get_z, get_s, set_z, set_s, List.length_cons, List.length_nil, atI_0, atI_1, atI_2, atI_3, atI_4, ixN_5_0, ixN_5_1, ixN_5_2, ixN_5_3, ixN_5_4, D.bl.injEq, D.int.injEq, D.lst.injEq, D.tup.injEq, D.str.injEq, Sl.own.injEq, Sl.val.injEq, Option.some.injEq, exists_eq_left', exists_eq_left, exists_eq', exists_eq, or_true, true_or, or_false, false_or, CMul, CPow, natAbs_10, natAbs_2, Int.cast_ofNat_Int, Nat.reducePow, exists_and_left, exists_const, and_assoc, true_and, and_true, and_self, false_and, and_false, if_true, if_false, ite_true, ite_false, reduceCtorEq, decide_true, decide_false, decide_eq_true_eq, decide_eq_false_iff_not, Bool.not_true, Bool.not_false, Bool.false_eq_true, List.replicate_zero, List.replicate_succ, List.map_cons, List.map_nil, List.nil_append, List.cons_append, Nat.reduceSub, Nat.reduceAdd, Nat.reduceLeDiff, Nat.reduceLT, Int.reduceLT, Int.reduceLE, Int.reduceAdd, Int.reduceSub, Int.reduceMul, Int.reduceNeg, Int.reduceMod, Int.reduceDiv, Int.reducePow, Int.reduceToNat, okD_int, okD_bl, okD_lst, okD_tup, okD_non, okL_nil, okL_cons, okD_str, okL_int, eqD_int, eqD_bl, eqD_str, eqD_tup, eqD_lst, eqL_cons, eqL_nil, eqL_cn, eqL_nc, eqL_int, Bool.and_eq_true, Bool.or_eq_true, Bool.not_eq_true', Bool.and_false, Bool.false_and, Bool.or_false, Bool.false_or, Bool.or_true, Bool.true_or, Bool.and_true, Bool.true_and, Bool.and_self, wIsT2, wDct0, wLstOf, wRepF, wAsgH, DV.hN, hIx, hCons, hNil, hTup, wLM, gCnt, gIdx, gList, gSorted, wAppPop, wRaise0, wRaise1, wTry, wIsE, wAct, wFl, flD, okD_bl])
      exact sp_law_is (hx z hz) hk'
    have tb : ∀ xs : List D, toBs (xs.map fun _ => .bl true) = some (xs.map fun _ => true) := fun xs => by
      rw [← toBs_map, List.map_map]; rfl
    have al : ∀ xs : List D, (xs.map fun _ => true).all id = true := fun xs => by simp
    unfold T__law_is wFn B__law_is
    cases x with
    | non =>
      (try simp only [wSeq, wAsg, wOwn, wF, wLc, wSkip, wBrk, wCnt, wRet, wRetF, wRetN, wDrop, wIfS, wPar, wFor, wWh, wV, wApp, wExt, wSetIx, wAug, wVal, wLook, wC, wOp, wTst, wChain, wAnd, wOr, wNot, wAndV, wOrV, wNotV, wIf, wNil, wCons, wTup, wLst, wCall, wCB, wIsT, wiR1, wiR2, wiSq, wiEn, wiZip, gN, gT1, gT2, gT3, gT4, gT5, gT6, gT7, wYes, gAdd, DV.gSub, gMul, gMod, gDiv, gPow, gLt, gLe, gGt, gGe, gCmp, gEq, gNe, gIs, gIsN, DV.isNon, gIn, gNotIn, gIx, gSlc, wSlc, wNoP, wPart, gLen, gAbs, gInt, gMin2, gMax2, gAll, gAny, gSum, gTuple, wNeg, wRev, itemsOf, D.isTy, D.isHand, Sl.toD, big_0, big_1, big_2, big_3, big_4, big_5, big_6, big_7, big_8, big_9, big_10, big_11, big_12, draw_iff, own_ex, val_ex, wipeE, restE, Sl.keep, Option.getD_some, get_z, get_s, set_z, set_s, List.length_cons, List.length_nil, atI_0, atI_1, atI_2, atI_3, atI_4, ixN_5_0, ixN_5_1, ixN_5_2, ixN_5_3, ixN_5_4, D.bl.injEq, D.int.injEq, D.lst.injEq, D.tup.injEq, D.str.injEq, Sl.own.injEq, Sl.val.injEq, Option.some.injEq, exists_eq_left', exists_eq_left, exists_eq', exists_eq, or_true, true_or, or_false, false_or, CMul, CPow, natAbs_10, natAbs_2, Int.cast_ofNat_Int, Nat.reducePow, exists_and_left, exists_const, and_assoc, true_and, and_true, and_self, false_and, and_false, if_true, if_false, ite_true, ite_false, reduceCtorEq, decide_true, decide_false, decide_eq_true_eq, decide_eq_false_iff_not, Bool.not_true, Bool.not_false, Bool.false_eq_true, List.replicate_zero, List.replicate_succ, List.map_cons, List.map_nil, List.nil_append, List.cons_append, Nat.reduceSub, Nat.reduceAdd, Nat.reduceLeDiff, Nat.reduceLT, Int.reduceLT, Int.reduceLE, Int.reduceAdd, Int.reduceSub, Int.reduceMul, Int.reduceNeg, Int.reduceMod, Int.reduceDiv, Int.reducePow, Int.reduceToNat, okD_int, okD_bl, okD_lst, okD_tup, okD_non, okL_nil, okL_cons, okD_str, okL_int, eqD_int, eqD_bl, eqD_str, eqD_tup, eqD_lst, eqL_cons, eqL_nil, eqL_cn, eqL_nc, eqL_int, Bool.and_eq_true, Bool.or_eq_true, Bool.not_eq_true', Bool.and_false, Bool.false_and, Bool.or_false, Bool.false_or, Bool.or_true, Bool.true_or, Bool.and_true, Bool.true_and, Bool.and_self, wIsT2, wDct0, wLstOf, wRepF, wAsgH, DV.hN, hIx, hCons, hNil, hTup, wLM, gCnt, gIdx, gList, gSorted, wAppPop, wRaise0, wRaise1, wTry, wIsE, wAct, wFl, flD, okD_bl])
      unfold B__law_is_7
      (try simp only [wSeq, wAsg, wOwn, wF, wLc, wSkip, wBrk, wCnt, wRet, wRetF, wRetN, wDrop, wIfS, wPar, wFor, wWh, wV, wApp, wExt, wSetIx, wAug, wVal, wLook, wC, wOp, wTst, wChain, wAnd, wOr, wNot, wAndV, wOrV, wNotV, wIf, wNil, wCons, wTup, wLst, wCall, wCB, wIsT, wiR1, wiR2, wiSq, wiEn, wiZip, gN, gT1, gT2, gT3, gT4, gT5, gT6, gT7, wYes, gAdd, DV.gSub, gMul, gMod, gDiv, gPow, gLt, gLe, gGt, gGe, gCmp, gEq, gNe, gIs, gIsN, DV.isNon, gIn, gNotIn, gIx, gSlc, wSlc, wNoP, wPart, gLen, gAbs, gInt, gMin2, gMax2, gAll, gAny, gSum, gTuple, wNeg, wRev, itemsOf, D.isTy, D.isHand, Sl.toD, big_0, big_1, big_2, big_3, big_4, big_5, big_6, big_7, big_8, big_9, big_10, big_11, big_12, draw_iff, own_ex, val_ex, wipeE, restE, Sl.keep, Option.getD_some, get_z, get_s, set_z, set_s, List.length_cons, List.length_nil, atI_0, atI_1, atI_2, atI_3, atI_4, ixN_5_0, ixN_5_1, ixN_5_2, ixN_5_3, ixN_5_4, D.bl.injEq, D.int.injEq, D.lst.injEq, D.tup.injEq, D.str.injEq, Sl.own.injEq, Sl.val.injEq, Option.some.injEq, exists_eq_left', exists_eq_left, exists_eq', exists_eq, or_true, true_or, or_false, false_or, CMul, CPow, natAbs_10, natAbs_2, Int.cast_ofNat_Int, Nat.reducePow, exists_and_left, exists_const, and_assoc, true_and, and_true, and_self, false_and, and_false, if_true, if_false, ite_true, ite_false, reduceCtorEq, decide_true, decide_false, decide_eq_true_eq, decide_eq_false_iff_not, Bool.not_true, Bool.not_false, Bool.false_eq_true, List.replicate_zero, List.replicate_succ, List.map_cons, List.map_nil, List.nil_append, List.cons_append, Nat.reduceSub, Nat.reduceAdd, Nat.reduceLeDiff, Nat.reduceLT, Int.reduceLT, Int.reduceLE, Int.reduceAdd, Int.reduceSub, Int.reduceMul, Int.reduceNeg, Int.reduceMod, Int.reduceDiv, Int.reducePow, Int.reduceToNat, okD_int, okD_bl, okD_lst, okD_tup, okD_non, okL_nil, okL_cons, okD_str, okL_int, eqD_int, eqD_bl, eqD_str, eqD_tup, eqD_lst, eqL_cons, eqL_nil, eqL_cn, eqL_nc, eqL_int, Bool.and_eq_true, Bool.or_eq_true, Bool.not_eq_true', Bool.and_false, Bool.false_and, Bool.or_false, Bool.false_or, Bool.or_true, Bool.true_or, Bool.and_true, Bool.true_and, Bool.and_self, wIsT2, wDct0, wLstOf, wRepF, wAsgH, DV.hN, hIx, hCons, hNil, hTup, wLM, gCnt, gIdx, gList, gSorted, wAppPop, wRaise0, wRaise1, wTry, wIsE, wAct, wFl, flD, okD_bl])
      exact q
    | bl b =>
      (try simp only [wSeq, wAsg, wOwn, wF, wLc, wSkip, wBrk, wCnt, wRet, wRetF, wRetN, wDrop, wIfS, wPar, wFor, wWh, wV, wApp, wExt, wSetIx, wAug, wVal, wLook, wC, wOp, wTst, wChain, wAnd, wOr, wNot, wAndV, wOrV, wNotV, wIf, wNil, wCons, wTup, wLst, wCall, wCB, wIsT, wiR1, wiR2, wiSq, wiEn, wiZip, gN, gT1, gT2, gT3, gT4, gT5, gT6, gT7, wYes, gAdd, DV.gSub, gMul, gMod, gDiv, gPow, gLt, gLe, gGt, gGe, gCmp, gEq, gNe, gIs, gIsN, DV.isNon, gIn, gNotIn, gIx, gSlc, wSlc, wNoP, wPart, gLen, gAbs, gInt, gMin2, gMax2, gAll, gAny, gSum, gTuple, wNeg, wRev, itemsOf, D.isTy, D.isHand, Sl.toD, big_0, big_1, big_2, big_3, big_4, big_5, big_6, big_7, big_8, big_9, big_10, big_11, big_12, draw_iff, own_ex, val_ex, wipeE, restE, Sl.keep, Option.getD_some, get_z, get_s, set_z, set_s, List.length_cons, List.length_nil, atI_0, atI_1, atI_2, atI_3, atI_4, ixN_5_0, ixN_5_1, ixN_5_2, ixN_5_3, ixN_5_4, D.bl.injEq, D.int.injEq, D.lst.injEq, D.tup.injEq, D.str.injEq, Sl.own.injEq, Sl.val.injEq, Option.some.injEq, exists_eq_left', exists_eq_left, exists_eq', exists_eq, or_true, true_or, or_false, false_or, CMul, CPow, natAbs_10, natAbs_2, Int.cast_ofNat_Int, Nat.reducePow, exists_and_left, exists_const, and_assoc, true_and, and_true, and_self, false_and, and_false, if_true, if_false, ite_true, ite_false, reduceCtorEq, decide_true, decide_false, decide_eq_true_eq, decide_eq_false_iff_not, Bool.not_true, Bool.not_false, Bool.false_eq_true, List.replicate_zero, List.replicate_succ, List.map_cons, List.map_nil, List.nil_append, List.cons_append, Nat.reduceSub, Nat.reduceAdd, Nat.reduceLeDiff, Nat.reduceLT, Int.reduceLT, Int.reduceLE, Int.reduceAdd, Int.reduceSub, Int.reduceMul, Int.reduceNeg, Int.reduceMod, Int.reduceDiv, Int.reducePow, Int.reduceToNat, okD_int, okD_bl, okD_lst, okD_tup, okD_non, okL_nil, okL_cons, okD_str, okL_int, eqD_int, eqD_bl, eqD_str, eqD_tup, eqD_lst, eqL_cons, eqL_nil, eqL_cn, eqL_nc, eqL_int, Bool.and_eq_true, Bool.or_eq_true, Bool.not_eq_true', Bool.and_false, Bool.false_and, Bool.or_false, Bool.false_or, Bool.or_true, Bool.true_or, Bool.and_true, Bool.true_and, Bool.and_self, wIsT2, wDct0, wLstOf, wRepF, wAsgH, DV.hN, hIx, hCons, hNil, hTup, wLM, gCnt, gIdx, gList, gSorted, wAppPop, wRaise0, wRaise1, wTry, wIsE, wAct, wFl, flD, okD_bl])
      unfold B__law_is_7
      (try simp only [wSeq, wAsg, wOwn, wF, wLc, wSkip, wBrk, wCnt, wRet, wRetF, wRetN, wDrop, wIfS, wPar, wFor, wWh, wV, wApp, wExt, wSetIx, wAug, wVal, wLook, wC, wOp, wTst, wChain, wAnd, wOr, wNot, wAndV, wOrV, wNotV, wIf, wNil, wCons, wTup, wLst, wCall, wCB, wIsT, wiR1, wiR2, wiSq, wiEn, wiZip, gN, gT1, gT2, gT3, gT4, gT5, gT6, gT7, wYes, gAdd, DV.gSub, gMul, gMod, gDiv, gPow, gLt, gLe, gGt, gGe, gCmp, gEq, gNe, gIs, gIsN, DV.isNon, gIn, gNotIn, gIx, gSlc, wSlc, wNoP, wPart, gLen, gAbs, gInt, gMin2, gMax2, gAll, gAny, gSum, gTuple, wNeg, wRev, itemsOf, D.isTy, D.isHand, Sl.toD, big_0, big_1, big_2, big_3, big_4, big_5, big_6, big_7, big_8, big_9, big_10, big_11, big_12, draw_iff, own_ex, val_ex, wipeE, restE, Sl.keep, Option.getD_some, get_z, get_s, set_z, set_s, List.length_cons, List.length_nil, atI_0, atI_1, atI_2, atI_3, atI_4, ixN_5_0, ixN_5_1, ixN_5_2, ixN_5_3, ixN_5_4, D.bl.injEq, D.int.injEq, D.lst.injEq, D.tup.injEq, D.str.injEq, Sl.own.injEq, Sl.val.injEq, Option.some.injEq, exists_eq_left', exists_eq_left, exists_eq', exists_eq, or_true, true_or, or_false, false_or, CMul, CPow, natAbs_10, natAbs_2, Int.cast_ofNat_Int, Nat.reducePow, exists_and_left, exists_const, and_assoc, true_and, and_true, and_self, false_and, and_false, if_true, if_false, ite_true, ite_false, reduceCtorEq, decide_true, decide_false, decide_eq_true_eq, decide_eq_false_iff_not, Bool.not_true, Bool.not_false, Bool.false_eq_true, List.replicate_zero, List.replicate_succ, List.map_cons, List.map_nil, List.nil_append, List.cons_append, Nat.reduceSub, Nat.reduceAdd, Nat.reduceLeDiff, Nat.reduceLT, Int.reduceLT, Int.reduceLE, Int.reduceAdd, Int.reduceSub, Int.reduceMul, Int.reduceNeg, Int.reduceMod, Int.reduceDiv, Int.reducePow, Int.reduceToNat, okD_int, okD_bl, okD_lst, okD_tup, okD_non, okL_nil, okL_cons, okD_str, okL_int, eqD_int, eqD_bl, eqD_str, eqD_tup, eqD_lst, eqL_cons, eqL_nil, eqL_cn, eqL_nc, eqL_int, Bool.and_eq_true, Bool.or_eq_true, Bool.not_eq_true', Bool.and_false, Bool.false_and, Bool.or_false, Bool.false_or, Bool.or_true, Bool.true_or, Bool.and_true, Bool.true_and, Bool.and_self, wIsT2, wDct0, wLstOf, wRepF, wAsgH, DV.hN, hIx, hCons, hNil, hTup, wLM, gCnt, gIdx, gList, gSorted, wAppPop, wRaise0, wRaise1, wTry, wIsE, wAct, wFl, flD, okD_bl])
      unfold B__law_is_9
      simp only [wSeq, wAsg, wOwn, wF, wLc, wSkip, wBrk, wCnt, wRet, wRetF, wRetN, wDrop, wIfS, wPar, wFor, wWh, wV, wApp, wExt, wSetIx, wAug, wVal, wLook, wC, wOp, wTst, wChain, wAnd, wOr, wNot, wAndV, wOrV, wNotV, wIf, wNil, wCons, wTup, wLst, wCall, wCB, wIsT, wiR1, wiR2, wiSq, wiEn, wiZip, gN, gT1, gT2, gT3, gT4, gT5, gT6, gT7, wYes, gAdd, DV.gSub, gMul, gMod, gDiv, gPow, gLt, gLe, gGt, gGe, gCmp, gEq, gNe, gIs, gIsN, DV.isNon, gIn, gNotIn, gIx, gSlc, wSlc, wNoP, wPart, gLen, gAbs, gInt, gMin2, gMax2, gAll, gAny, gSum, gTuple, wNeg, wRev, itemsOf, D.isTy, D.isHand, Sl.toD, big_0, big_1, big_2, big_3, big_4, big_5, big_6, big_7, big_8, big_9, big_10, big_11, big_12, draw_iff, own_ex, val_ex, wipeE, restE, Sl.keep, Option.getD_some, get_z, get_s, set_z, set_s, List.length_cons, List.length_nil, atI_0, atI_1, atI_2, atI_3, atI_4, ixN_5_0, ixN_5_1, ixN_5_2, ixN_5_3, ixN_5_4, D.bl.injEq, D.int.injEq, D.lst.injEq, D.tup.injEq, D.str.injEq, Sl.own.injEq, Sl.val.injEq, Option.some.injEq, exists_eq_left', exists_eq_left, exists_eq', exists_eq, or_true, true_or, or_false, false_or, CMul, CPow, natAbs_10, natAbs_2, Int.cast_ofNat_Int, Nat.reducePow, exists_and_left, exists_const, and_assoc, true_and, and_true, and_self, false_and, and_false, if_true, if_false, ite_true, ite_false, reduceCtorEq, decide_true, decide_false, decide_eq_true_eq, decide_eq_false_iff_not, Bool.not_true, Bool.not_false, Bool.false_eq_true, List.replicate_zero, List.replicate_succ, List.map_cons, List.map_nil, List.nil_append, List.cons_append, Nat.reduceSub, Nat.reduceAdd, Nat.reduceLeDiff, Nat.reduceLT, Int.reduceLT, Int.reduceLE, Int.reduceAdd, Int.reduceSub, Int.reduceMul, Int.reduceNeg, Int.reduceMod, Int.reduceDiv, Int.reducePow, Int.reduceToNat, okD_int, okD_bl, okD_lst, okD_tup, okD_non, okL_nil, okL_cons, okD_str, okL_int, eqD_int, eqD_bl, eqD_str, eqD_tup, eqD_lst, eqL_cons, eqL_nil, eqL_cn, eqL_nc, eqL_int, Bool.and_eq_true, Bool.or_eq_true, Bool.not_eq_true', Bool.and_false, Bool.false_and, Bool.or_false, Bool.false_or, Bool.or_true, Bool.true_or, Bool.and_true, Bool.true_and, Bool.and_self, wIsT2, wDct0, wLstOf, wRepF, wAsgH, DV.hN, hIx, hCons, hNil, hTup, wLM, gCnt, gIdx, gList, gSorted, wAppPop, wRaise0, wRaise1, wTry, wIsE, wAct, wFl, flD, okD_bl, eqD_bl]
      unfold B__law_is_11
      simp only [wSeq, wAsg, wOwn, wF, wLc, wSkip, wBrk, wCnt, wRet, wRetF, wRetN, wDrop, wIfS, wPar, wFor, wWh, wV, wApp, wExt, wSetIx, wAug, wVal, wLook, wC, wOp, wTst, wChain, wAnd, wOr, wNot, wAndV, wOrV, wNotV, wIf, wNil, wCons, wTup, wLst, wCall, wCB, wIsT, wiR1, wiR2, wiSq, wiEn, wiZip, gN, gT1, gT2, gT3, gT4, gT5, gT6, gT7, wYes, gAdd, DV.gSub, gMul, gMod, gDiv, gPow, gLt, gLe, gGt, gGe, gCmp, gEq, gNe, gIs, gIsN, DV.isNon, gIn, gNotIn, gIx, gSlc, wSlc, wNoP, wPart, gLen, gAbs, gInt, gMin2, gMax2, gAll, gAny, gSum, gTuple, wNeg, wRev, itemsOf, D.isTy, D.isHand, Sl.toD, big_0, big_1, big_2, big_3, big_4, big_5, big_6, big_7, big_8, big_9, big_10, big_11, big_12, draw_iff, own_ex, val_ex, wipeE, restE, Sl.keep, Option.getD_some, get_z, get_s, set_z, set_s, List.length_cons, List.length_nil, atI_0, atI_1, atI_2, atI_3, atI_4, ixN_5_0, ixN_5_1, ixN_5_2, ixN_5_3, ixN_5_4, D.bl.injEq, D.int.injEq, D.lst.injEq, D.tup.injEq, D.str.injEq, Sl.own.injEq, Sl.val.injEq, Option.some.injEq, exists_eq_left', exists_eq_left, exists_eq', exists_eq, or_true, true_or, or_false, false_or, CMul, CPow, natAbs_10, natAbs_2, Int.cast_ofNat_Int, Nat.reducePow, exists_and_left, exists_const, and_assoc, true_and, and_true, and_self, false_and, and_false, if_true, if_false, ite_true, ite_false, reduceCtorEq, decide_true, decide_false, decide_eq_true_eq, decide_eq_false_iff_not, Bool.not_true, Bool.not_false, Bool.false_eq_true, List.replicate_zero, List.replicate_succ, List.map_cons, List.map_nil, List.nil_append, List.cons_append, Nat.reduceSub, Nat.reduceAdd, Nat.reduceLeDiff, Nat.reduceLT, Int.reduceLT, Int.reduceLE, Int.reduceAdd, Int.reduceSub, Int.reduceMul, Int.reduceNeg, Int.reduceMod, Int.reduceDiv, Int.reducePow, Int.reduceToNat, okD_int, okD_bl, okD_lst, okD_tup, okD_non, okL_nil, okL_cons, okD_str, okL_int, eqD_int, eqD_bl, eqD_str, eqD_tup, eqD_lst, eqL_cons, eqL_nil, eqL_cn, eqL_nc, eqL_int, Bool.and_eq_true, Bool.or_eq_true, Bool.not_eq_true', Bool.and_false, Bool.false_and, Bool.or_false, Bool.false_or, Bool.or_true, Bool.true_or, Bool.and_true, Bool.true_and, Bool.and_self, wIsT2, wDct0, wLstOf, wRepF, wAsgH, DV.hN, hIx, hCons, hNil, hTup, wLM, gCnt, gIdx, gList, gSorted, wAppPop, wRaise0, wRaise1, wTry, wIsE, wAct, wFl, flD, okD_bl, eqD_bl]
      exact q
    | int b =>
      (try simp only [wSeq, wAsg, wOwn, wF, wLc, wSkip, wBrk, wCnt, wRet, wRetF, wRetN, wDrop, wIfS, wPar, wFor, wWh, wV, wApp, wExt, wSetIx, wAug, wVal, wLook, wC, wOp, wTst, wChain, wAnd, wOr, wNot, wAndV, wOrV, wNotV, wIf, wNil, wCons, wTup, wLst, wCall, wCB, wIsT, wiR1, wiR2, wiSq, wiEn, wiZip, gN, gT1, gT2, gT3, gT4, gT5, gT6, gT7, wYes, gAdd, DV.gSub, gMul, gMod, gDiv, gPow, gLt, gLe, gGt, gGe, gCmp, gEq, gNe, gIs, gIsN, DV.isNon, gIn, gNotIn, gIx, gSlc, wSlc, wNoP, wPart, gLen, gAbs, gInt, gMin2, gMax2, gAll, gAny, gSum, gTuple, wNeg, wRev, itemsOf, D.isTy, D.isHand, Sl.toD, big_0, big_1, big_2, big_3, big_4, big_5, big_6, big_7, big_8, big_9, big_10, big_11, big_12, draw_iff, own_ex, val_ex, wipeE, restE, Sl.keep, Option.getD_some, get_z, get_s, set_z, set_s, List.length_cons, List.length_nil, atI_0, atI_1, atI_2, atI_3, atI_4, ixN_5_0, ixN_5_1, ixN_5_2, ixN_5_3, ixN_5_4, D.bl.injEq, D.int.injEq, D.lst.injEq, D.tup.injEq, D.str.injEq, Sl.own.injEq, Sl.val.injEq, Option.some.injEq, exists_eq_left', exists_eq_left, exists_eq', exists_eq, or_true, true_or, or_false, false_or, CMul, CPow, natAbs_10, natAbs_2, Int.cast_ofNat_Int, Nat.reducePow, exists_and_left, exists_const, and_assoc, true_and, and_true, and_self, false_and, and_false, if_true, if_false, ite_true, ite_false, reduceCtorEq, decide_true, decide_false, decide_eq_true_eq, decide_eq_false_iff_not, Bool.not_true, Bool.not_false, Bool.false_eq_true, List.replicate_zero, List.replicate_succ, List.map_cons, List.map_nil, List.nil_append, List.cons_append, Nat.reduceSub, Nat.reduceAdd, Nat.reduceLeDiff, Nat.reduceLT, Int.reduceLT, Int.reduceLE, Int.reduceAdd, Int.reduceSub, Int.reduceMul, Int.reduceNeg, Int.reduceMod, Int.reduceDiv, Int.reducePow, Int.reduceToNat, okD_int, okD_bl, okD_lst, okD_tup, okD_non, okL_nil, okL_cons, okD_str, okL_int, eqD_int, eqD_bl, eqD_str, eqD_tup, eqD_lst, eqL_cons, eqL_nil, eqL_cn, eqL_nc, eqL_int, Bool.and_eq_true, Bool.or_eq_true, Bool.not_eq_true', Bool.and_false, Bool.false_and, Bool.or_false, Bool.false_or, Bool.or_true, Bool.true_or, Bool.and_true, Bool.true_and, Bool.and_self, wIsT2, wDct0, wLstOf, wRepF, wAsgH, DV.hN, hIx, hCons, hNil, hTup, wLM, gCnt, gIdx, gList, gSorted, wAppPop, wRaise0, wRaise1, wTry, wIsE, wAct, wFl, flD, okD_bl])
      unfold B__law_is_7
      (try simp only [wSeq, wAsg, wOwn, wF, wLc, wSkip, wBrk, wCnt, wRet, wRetF, wRetN, wDrop, wIfS, wPar, wFor, wWh, wV, wApp, wExt, wSetIx, wAug, wVal, wLook, wC, wOp, wTst, wChain, wAnd, wOr, wNot, wAndV, wOrV, wNotV, wIf, wNil, wCons, wTup, wLst, wCall, wCB, wIsT, wiR1, wiR2, wiSq, wiEn, wiZip, gN, gT1, gT2, gT3, gT4, gT5, gT6, gT7, wYes, gAdd, DV.gSub, gMul, gMod, gDiv, gPow, gLt, gLe, gGt, gGe, gCmp, gEq, gNe, gIs, gIsN, DV.isNon, gIn, gNotIn, gIx, gSlc, wSlc, wNoP, wPart, gLen, gAbs, gInt, gMin2, gMax2, gAll, gAny, gSum, gTuple, wNeg, wRev, itemsOf, D.isTy, D.isHand, Sl.toD, big_0, big_1, big_2, big_3, big_4, big_5, big_6, big_7, big_8, big_9, big_10, big_11, big_12, draw_iff, own_ex, val_ex, wipeE, restE, Sl.keep, Option.getD_some, get_z, get_s, set_z, set_s, List.length_cons, List.length_nil, atI_0, atI_1, atI_2, atI_3, atI_4, ixN_5_0, ixN_5_1, ixN_5_2, ixN_5_3, ixN_5_4, D.bl.injEq, D.int.injEq, D.lst.injEq, D.tup.injEq, D.str.injEq, Sl.own.injEq, Sl.val.injEq, Option.some.injEq, exists_eq_left', exists_eq_left, exists_eq', exists_eq, or_true, true_or, or_false, false_or, CMul, CPow, natAbs_10, natAbs_2, Int.cast_ofNat_Int, Nat.reducePow, exists_and_left, exists_const, and_assoc, true_and, and_true, and_self, false_and, and_false, if_true, if_false, ite_true, ite_false, reduceCtorEq, decide_true, decide_false, decide_eq_true_eq, decide_eq_false_iff_not, Bool.not_true, Bool.not_false, Bool.false_eq_true, List.replicate_zero, List.replicate_succ, List.map_cons, List.map_nil, List.nil_append, List.cons_append, Nat.reduceSub, Nat.reduceAdd, Nat.reduceLeDiff, Nat.reduceLT, Int.reduceLT, Int.reduceLE, Int.reduceAdd, Int.reduceSub, Int.reduceMul, Int.reduceNeg, Int.reduceMod, Int.reduceDiv, Int.reducePow, Int.reduceToNat, okD_int, okD_bl, okD_lst, okD_tup, okD_non, okL_nil, okL_cons, okD_str, okL_int, eqD_int, eqD_bl, eqD_str, eqD_tup, eqD_lst, eqL_cons, eqL_nil, eqL_cn, eqL_nc, eqL_int, Bool.and_eq_true, Bool.or_eq_true, Bool.not_eq_true', Bool.and_false, Bool.false_and, Bool.or_false, Bool.false_or, Bool.or_true, Bool.true_or, Bool.and_true, Bool.true_and, Bool.and_self, wIsT2, wDct0, wLstOf, wRepF, wAsgH, DV.hN, hIx, hCons, hNil, hTup, wLM, gCnt, gIdx, gList, gSorted, wAppPop, wRaise0, wRaise1, wTry, wIsE, wAct, wFl, flD, okD_bl])
      unfold B__law_is_9
      (try simp only [wSeq, wAsg, wOwn, wF, wLc, wSkip, wBrk, wCnt, wRet, wRetF, wRetN, wDrop, wIfS, wPar, wFor, wWh, wV, wApp, wExt, wSetIx, wAug, wVal, wLook, wC, wOp, wTst, wChain, wAnd, wOr, wNot, wAndV, wOrV, wNotV, wIf, wNil, wCons, wTup, wLst, wCall, wCB, wIsT, wiR1, wiR2, wiSq, wiEn, wiZip, gN, gT1, gT2, gT3, gT4, gT5, gT6, gT7, wYes, gAdd, DV.gSub, gMul, gMod, gDiv, gPow, gLt, gLe, gGt, gGe, gCmp, gEq, gNe, gIs, gIsN, DV.isNon, gIn, gNotIn, gIx, gSlc, wSlc, wNoP, wPart, gLen, gAbs, gInt, gMin2, gMax2, gAll, gAny, gSum, gTuple, wNeg, wRev, itemsOf, D.isTy, D.isHand, Sl.toD, big_0, big_1, big_2, big_3, big_4, big_5, big_6, big_7, big_8, big_9, big_10, big_11, big_12, draw_iff, own_ex, val_ex, wipeE, restE, Sl.keep, Option.getD_some, get_z, get_s, set_z, set_s, List.length_cons, List.length_nil, atI_0, atI_1, atI_2, atI_3, atI_4, ixN_5_0, ixN_5_1, ixN_5_2, ixN_5_3, ixN_5_4, D.bl.injEq, D.int.injEq, D.lst.injEq, D.tup.injEq, D.str.injEq, Sl.own.injEq, Sl.val.injEq, Option.some.injEq, exists_eq_left', exists_eq_left, exists_eq', exists_eq, or_true, true_or, or_false, false_or, CMul, CPow, natAbs_10, natAbs_2, Int.cast_ofNat_Int, Nat.reducePow, exists_and_left, exists_const, and_assoc, true_and, and_true, and_self, false_and, and_false, if_true, if_false, ite_true, ite_false, reduceCtorEq, decide_true, decide_false, decide_eq_true_eq, decide_eq_false_iff_not, Bool.not_true, Bool.not_false, Bool.false_eq_true, List.replicate_zero, List.replicate_succ, List.map_cons, List.map_nil, List.nil_append, List.cons_append, Nat.reduceSub, Nat.reduceAdd, Nat.reduceLeDiff, Nat.reduceLT, Int.reduceLT, Int.reduceLE, Int.reduceAdd, Int.reduceSub, Int.reduceMul, Int.reduceNeg, Int.reduceMod, Int.reduceDiv, Int.reducePow, Int.reduceToNat, okD_int, okD_bl, okD_lst, okD_tup, okD_non, okL_nil, okL_cons, okD_str, okL_int, eqD_int, eqD_bl, eqD_str, eqD_tup, eqD_lst, eqL_cons, eqL_nil, eqL_cn, eqL_nc, eqL_int, Bool.and_eq_true, Bool.or_eq_true, Bool.not_eq_true', Bool.and_false, Bool.false_and, Bool.or_false, Bool.false_or, Bool.or_true, Bool.true_or, Bool.and_true, Bool.true_and, Bool.and_self, wIsT2, wDct0, wLstOf, wRepF, wAsgH, DV.hN, hIx, hCons, hNil, hTup, wLM, gCnt, gIdx, gList, gSorted, wAppPop, wRaise0, wRaise1, wTry, wIsE, wAct, wFl, flD, okD_bl])
      unfold B__law_is_11
      simp only [wSeq, wAsg, wOwn, wF, wLc, wSkip, wBrk, wCnt, wRet, wRetF, wRetN, wDrop, wIfS, wPar, wFor, wWh, wV, wApp, wExt, wSetIx, wAug, wVal, wLook, wC, wOp, wTst, wChain, wAnd, wOr, wNot, wAndV, wOrV, wNotV, wIf, wNil, wCons, wTup, wLst, wCall, wCB, wIsT, wiR1, wiR2, wiSq, wiEn, wiZip, gN, gT1, gT2, gT3, gT4, gT5, gT6, gT7, wYes, gAdd, DV.gSub, gMul, gMod, gDiv, gPow, gLt, gLe, gGt, gGe, gCmp, gEq, gNe, gIs, gIsN, DV.isNon, gIn, gNotIn, gIx, gSlc, wSlc, wNoP, wPart, gLen, gAbs, gInt, gMin2, gMax2, gAll, gAny, gSum, gTuple, wNeg, wRev, itemsOf, D.isTy, D.isHand, Sl.toD, big_0, big_1, big_2, big_3, big_4, big_5, big_6, big_7, big_8, big_9, big_10, big_11, big_12, draw_iff, own_ex, val_ex, wipeE, restE, Sl.keep, Option.getD_some, get_z, get_s, set_z, set_s, List.length_cons, List.length_nil, atI_0, atI_1, atI_2, atI_3, atI_4, ixN_5_0, ixN_5_1, ixN_5_2, ixN_5_3, ixN_5_4, D.bl.injEq, D.int.injEq, D.lst.injEq, D.tup.injEq, D.str.injEq, Sl.own.injEq, Sl.val.injEq, Option.some.injEq, exists_eq_left', exists_eq_left, exists_eq', exists_eq, or_true, true_or, or_false, false_or, CMul, CPow, natAbs_10, natAbs_2, Int.cast_ofNat_Int, Nat.reducePow, exists_and_left, exists_const, and_assoc, true_and, and_true, and_self, false_and, and_false, if_true, if_false, ite_true, ite_false, reduceCtorEq, decide_true, decide_false, decide_eq_true_eq, decide_eq_false_iff_not, Bool.not_true, Bool.not_false, Bool.false_eq_true, List.replicate_zero, List.replicate_succ, List.map_cons, List.map_nil, List.nil_append, List.cons_append, Nat.reduceSub, Nat.reduceAdd, Nat.reduceLeDiff, Nat.reduceLT, Int.reduceLT, Int.reduceLE, Int.reduceAdd, Int.reduceSub, Int.reduceMul, Int.reduceNeg, Int.reduceMod, Int.reduceDiv, Int.reducePow, Int.reduceToNat, okD_int, okD_bl, okD_lst, okD_tup, okD_non, okL_nil, okL_cons, okD_str, okL_int, eqD_int, eqD_bl, eqD_str, eqD_tup, eqD_lst, eqL_cons, eqL_nil, eqL_cn, eqL_nc, eqL_int, Bool.and_eq_true, Bool.or_eq_true, Bool.not_eq_true', Bool.and_false, Bool.false_and, Bool.or_false, Bool.false_or, Bool.or_true, Bool.true_or, Bool.and_true, Bool.true_and, Bool.and_self, wIsT2, wDct0, wLstOf, wRepF, wAsgH, DV.hN, hIx, hCons, hNil, hTup, wLM, gCnt, gIdx, gList, gSorted, wAppPop, wRaise0, wRaise1, wTry, wIsE, wAct, wFl, flD, okD_bl, eqD_int]
      exact q
    | str b =>
      have h1 : PyData.strOk b = true := by have h2 : okD (.str b) 60 = true := h; rwa [okD_str] at h2
      (try simp only [wSeq, wAsg, wOwn, wF, wLc, wSkip, wBrk, wCnt, wRet, wRetF, wRetN, wDrop, wIfS, wPar, wFor, wWh, wV, wApp, wExt, wSetIx, wAug, wVal, wLook, wC, wOp, wTst, wChain, wAnd, wOr, wNot, wAndV, wOrV, wNotV, wIf, wNil, wCons, wTup, wLst, wCall, wCB, wIsT, wiR1, wiR2, wiSq, wiEn, wiZip, gN, gT1, gT2, gT3, gT4, gT5, gT6, gT7, wYes, gAdd, DV.gSub, gMul, gMod, gDiv, gPow, gLt, gLe, gGt, gGe, gCmp, gEq, gNe, gIs, gIsN, DV.isNon, gIn, gNotIn, gIx, gSlc, wSlc, wNoP, wPart, gLen, gAbs, gInt, gMin2, gMax2, gAll, gAny, gSum, gTuple, wNeg, wRev, itemsOf, D.isTy, D.isHand, Sl.toD, big_0, big_1, big_2, big_3, big_4, big_5, big_6, big_7, big_8, big_9, big_10, big_11, big_12, draw_iff, own_ex, val_ex, wipeE, restE, Sl.keep, Option.getD_some, get_z, get_s, set_z, set_s, List.length_cons, List.length_nil, atI_0, atI_1, atI_2, atI_3, atI_4, ixN_5_0, ixN_5_1, ixN_5_2, ixN_5_3, ixN_5_4, D.bl.injEq, D.int.injEq, D.lst.injEq, D.tup.injEq, D.str.injEq, Sl.own.injEq, Sl.val.injEq, Option.some.injEq, exists_eq_left', exists_eq_left, exists_eq', exists_eq, or_true, true_or, or_false, false_or, CMul, CPow, natAbs_10, natAbs_2, Int.cast_ofNat_Int, Nat.reducePow, exists_and_left, exists_const, and_assoc, true_and, and_true, and_self, false_and, and_false, if_true, if_false, ite_true, ite_false, reduceCtorEq, decide_true, decide_false, decide_eq_true_eq, decide_eq_false_iff_not, Bool.not_true, Bool.not_false, Bool.false_eq_true, List.replicate_zero, List.replicate_succ, List.map_cons, List.map_nil, List.nil_append, List.cons_append, Nat.reduceSub, Nat.reduceAdd, Nat.reduceLeDiff, Nat.reduceLT, Int.reduceLT, Int.reduceLE, Int.reduceAdd, Int.reduceSub, Int.reduceMul, Int.reduceNeg, Int.reduceMod, Int.reduceDiv, Int.reducePow, Int.reduceToNat, okD_int, okD_bl, okD_lst, okD_tup, okD_non, okL_nil, okL_cons, okD_str, okL_int, eqD_int, eqD_bl, eqD_str, eqD_tup, eqD_lst, eqL_cons, eqL_nil, eqL_cn, eqL_nc, eqL_int, Bool.and_eq_true, Bool.or_eq_true, Bool.not_eq_true', Bool.and_false, Bool.false_and, Bool.or_false, Bool.false_or, Bool.or_true, Bool.true_or, Bool.and_true, Bool.true_and, Bool.and_self, wIsT2, wDct0, wLstOf, wRepF, wAsgH, DV.hN, hIx, hCons, hNil, hTup, wLM, gCnt, gIdx, gList, gSorted, wAppPop, wRaise0, wRaise1, wTry, wIsE, wAct, wFl, flD, okD_bl])
      unfold B__law_is_7
      (try simp only [wSeq, wAsg, wOwn, wF, wLc, wSkip, wBrk, wCnt, wRet, wRetF, wRetN, wDrop, wIfS, wPar, wFor, wWh, wV, wApp, wExt, wSetIx, wAug, wVal, wLook, wC, wOp, wTst, wChain, wAnd, wOr, wNot, wAndV, wOrV, wNotV, wIf, wNil, wCons, wTup, wLst, wCall, wCB, wIsT, wiR1, wiR2, wiSq, wiEn, wiZip, gN, gT1, gT2, gT3, gT4, gT5, gT6, gT7, wYes, gAdd, DV.gSub, gMul, gMod, gDiv, gPow, gLt, gLe, gGt, gGe, gCmp, gEq, gNe, gIs, gIsN, DV.isNon, gIn, gNotIn, gIx, gSlc, wSlc, wNoP, wPart, gLen, gAbs, gInt, gMin2, gMax2, gAll, gAny, gSum, gTuple, wNeg, wRev, itemsOf, D.isTy, D.isHand, Sl.toD, big_0, big_1, big_2, big_3, big_4, big_5, big_6, big_7, big_8, big_9, big_10, big_11, big_12, draw_iff, own_ex, val_ex, wipeE, restE, Sl.keep, Option.getD_some, get_z, get_s, set_z, set_s, List.length_cons, List.length_nil, atI_0, atI_1, atI_2, atI_3, atI_4, ixN_5_0, ixN_5_1, ixN_5_2, ixN_5_3, ixN_5_4, D.bl.injEq, D.int.injEq, D.lst.injEq, D.tup.injEq, D.str.injEq, Sl.own.injEq, Sl.val.injEq, Option.some.injEq, exists_eq_left', exists_eq_left, exists_eq', exists_eq, or_true, true_or, or_false, false_or, CMul, CPow, natAbs_10, natAbs_2, Int.cast_ofNat_Int, Nat.reducePow, exists_and_left, exists_const, and_assoc, true_and, and_true, and_self, false_and, and_false, if_true, if_false, ite_true, ite_false, reduceCtorEq, decide_true, decide_false, decide_eq_true_eq, decide_eq_false_iff_not, Bool.not_true, Bool.not_false, Bool.false_eq_true, List.replicate_zero, List.replicate_succ, List.map_cons, List.map_nil, List.nil_append, List.cons_append, Nat.reduceSub, Nat.reduceAdd, Nat.reduceLeDiff, Nat.reduceLT, Int.reduceLT, Int.reduceLE, Int.reduceAdd, Int.reduceSub, Int.reduceMul, Int.reduceNeg, Int.reduceMod, Int.reduceDiv, Int.reducePow, Int.reduceToNat, okD_int, okD_bl, okD_lst, okD_tup, okD_non, okL_nil, okL_cons, okD_str, okL_int, eqD_int, eqD_bl, eqD_str, eqD_tup, eqD_lst, eqL_cons, eqL_nil, eqL_cn, eqL_nc, eqL_int, Bool.and_eq_true, Bool.or_eq_true, Bool.not_eq_true', Bool.and_false, Bool.false_and, Bool.or_false, Bool.false_or, Bool.or_true, Bool.true_or, Bool.and_true, Bool.true_and, Bool.and_self, wIsT2, wDct0, wLstOf, wRepF, wAsgH, DV.hN, hIx, hCons, hNil, hTup, wLM, gCnt, gIdx, gList, gSorted, wAppPop, wRaise0, wRaise1, wTry, wIsE, wAct, wFl, flD, okD_bl])
      unfold B__law_is_9
      (try simp only [wSeq, wAsg, wOwn, wF, wLc, wSkip, wBrk, wCnt, wRet, wRetF, wRetN, wDrop, wIfS, wPar, wFor, wWh, wV, wApp, wExt, wSetIx, wAug, wVal, wLook, wC, wOp, wTst, wChain, wAnd, wOr, wNot, wAndV, wOrV, wNotV, wIf, wNil, wCons, wTup, wLst, wCall, wCB, wIsT, wiR1, wiR2, wiSq, wiEn, wiZip, gN, gT1, gT2, gT3, gT4, gT5, gT6, gT7, wYes, gAdd, DV.gSub, gMul, gMod, gDiv, gPow, gLt, gLe, gGt, gGe, gCmp, gEq, gNe, gIs, gIsN, DV.isNon, gIn, gNotIn, gIx, gSlc, wSlc, wNoP, wPart, gLen, gAbs, gInt, gMin2, gMax2, gAll, gAny, gSum, gTuple, wNeg, wRev, itemsOf, D.isTy, D.isHand, Sl.toD, big_0, big_1, big_2, big_3, big_4, big_5, big_6, big_7, big_8, big_9, big_10, big_11, big_12, draw_iff, own_ex, val_ex, wipeE, restE, Sl.keep, Option.getD_some, get_z, get_s, set_z, set_s, List.length_cons, List.length_nil, atI_0, atI_1, atI_2, atI_3, atI_4, ixN_5_0, ixN_5_1, ixN_5_2, ixN_5_3, ixN_5_4, D.bl.injEq, D.int.injEq, D.lst.injEq, D.tup.injEq, D.str.injEq, Sl.own.injEq, Sl.val.injEq, Option.some.injEq, exists_eq_left', exists_eq_left, exists_eq', exists_eq, or_true, true_or, or_false, false_or, CMul, CPow, natAbs_10, natAbs_2, Int.cast_ofNat_Int, Nat.reducePow, exists_and_left, exists_const, and_assoc, true_and, and_true, and_self, false_and, and_false, if_true, if_false, ite_true, ite_false, reduceCtorEq, decide_true, decide_false, decide_eq_true_eq, decide_eq_false_iff_not, Bool.not_true, Bool.not_false, Bool.false_eq_true, List.replicate_zero, List.replicate_succ, List.map_cons, List.map_nil, List.nil_append, List.cons_append, Nat.reduceSub, Nat.reduceAdd, Nat.reduceLeDiff, Nat.reduceLT, Int.reduceLT, Int.reduceLE, Int.reduceAdd, Int.reduceSub, Int.reduceMul, Int.reduceNeg, Int.reduceMod, Int.reduceDiv, Int.reducePow, Int.reduceToNat, okD_int, okD_bl, okD_lst, okD_tup, okD_non, okL_nil, okL_cons, okD_str, okL_int, eqD_int, eqD_bl, eqD_str, eqD_tup, eqD_lst, eqL_cons, eqL_nil, eqL_cn, eqL_nc, eqL_int, Bool.and_eq_true, Bool.or_eq_true, Bool.not_eq_true', Bool.and_false, Bool.false_and, Bool.or_false, Bool.false_or, Bool.or_true, Bool.true_or, Bool.and_true, Bool.true_and, Bool.and_self, wIsT2, wDct0, wLstOf, wRepF, wAsgH, DV.hN, hIx, hCons, hNil, hTup, wLM, gCnt, gIdx, gList, gSorted, wAppPop, wRaise0, wRaise1, wTry, wIsE, wAct, wFl, flD, okD_bl])
      unfold B__law_is_11
      simp only [wSeq, wAsg, wOwn, wF, wLc, wSkip, wBrk, wCnt, wRet, wRetF, wRetN, wDrop, wIfS, wPar, wFor, wWh, wV, wApp, wExt, wSetIx, wAug, wVal, wLook, wC, wOp, wTst, wChain, wAnd, wOr, wNot, wAndV, wOrV, wNotV, wIf, wNil, wCons, wTup, wLst, wCall, wCB, wIsT, wiR1, wiR2, wiSq, wiEn, wiZip, gN, gT1, gT2, gT3, gT4, gT5, gT6, gT7, wYes, gAdd, DV.gSub, gMul, gMod, gDiv, gPow, gLt, gLe, gGt, gGe, gCmp, gEq, gNe, gIs, gIsN, DV.isNon, gIn, gNotIn, gIx, gSlc, wSlc, wNoP, wPart, gLen, gAbs, gInt, gMin2, gMax2, gAll, gAny, gSum, gTuple, wNeg, wRev, itemsOf, D.isTy, D.isHand, Sl.toD, big_0, big_1, big_2, big_3, big_4, big_5, big_6, big_7, big_8, big_9, big_10, big_11, big_12, draw_iff, own_ex, val_ex, wipeE, restE, Sl.keep, Option.getD_some, get_z, get_s, set_z, set_s, List.length_cons, List.length_nil, atI_0, atI_1, atI_2, atI_3, atI_4, ixN_5_0, ixN_5_1, ixN_5_2, ixN_5_3, ixN_5_4, D.bl.injEq, D.int.injEq, D.lst.injEq, D.tup.injEq, D.str.injEq, Sl.own.injEq, Sl.val.injEq, Option.some.injEq, exists_eq_left', exists_eq_left, exists_eq', exists_eq, or_true, true_or, or_false, false_or, CMul, CPow, natAbs_10, natAbs_2, Int.cast_ofNat_Int, Nat.reducePow, exists_and_left, exists_const, and_assoc, true_and, and_true, and_self, false_and, and_false, if_true, if_false, ite_true, ite_false, reduceCtorEq, decide_true, decide_false, decide_eq_true_eq, decide_eq_false_iff_not, Bool.not_true, Bool.not_false, Bool.false_eq_true, List.replicate_zero, List.replicate_succ, List.map_cons, List.map_nil, List.nil_append, List.cons_append, Nat.reduceSub, Nat.reduceAdd, Nat.reduceLeDiff, Nat.reduceLT, Int.reduceLT, Int.reduceLE, Int.reduceAdd, Int.reduceSub, Int.reduceMul, Int.reduceNeg, Int.reduceMod, Int.reduceDiv, Int.reducePow, Int.reduceToNat, okD_int, okD_bl, okD_lst, okD_tup, okD_non, okL_nil, okL_cons, okD_str, okL_int, eqD_int, eqD_bl, eqD_str, eqD_tup, eqD_lst, eqL_cons, eqL_nil, eqL_cn, eqL_nc, eqL_int, Bool.and_eq_true, Bool.or_eq_true, Bool.not_eq_true', Bool.and_false, Bool.false_and, Bool.or_false, Bool.false_or, Bool.or_true, Bool.true_or, Bool.and_true, Bool.true_and, Bool.and_self, wIsT2, wDct0, wLstOf, wRepF, wAsgH, DV.hN, hIx, hCons, hNil, hTup, wLM, gCnt, gIdx, gList, gSorted, wAppPop, wRaise0, wRaise1, wTry, wIsE, wAct, wFl, flD, okD_bl, h1, eqD_str]
      exact q
    | tup xs =>
      obtain ⟨h1, h2⟩ := h
      (try simp only [wSeq, wAsg, wOwn, wF, wLc, wSkip, wBrk, wCnt, wRet, wRetF, wRetN, wDrop, wIfS, wPar, wFor, wWh, wV, wApp, wExt, wSetIx, wAug, wVal, wLook, wC, wOp, wTst, wChain, wAnd, wOr, wNot, wAndV, wOrV, wNotV, wIf, wNil, wCons, wTup, wLst, wCall, wCB, wIsT, wiR1, wiR2, wiSq, wiEn, wiZip, gN, gT1, gT2, gT3, gT4, gT5, gT6, gT7, wYes, gAdd, DV.gSub, gMul, gMod, gDiv, gPow, gLt, gLe, gGt, gGe, gCmp, gEq, gNe, gIs, gIsN, DV.isNon, gIn, gNotIn, gIx, gSlc, wSlc, wNoP, wPart, gLen, gAbs, gInt, gMin2, gMax2, gAll, gAny, gSum, gTuple, wNeg, wRev, itemsOf, D.isTy, D.isHand, Sl.toD, big_0, big_1, big_2, big_3, big_4, big_5, big_6, big_7, big_8, big_9, big_10, big_11, big_12, draw_iff, own_ex, val_ex, wipeE, restE, Sl.keep, Option.getD_some, get_z, get_s, set_z, set_s, List.length_cons, List.length_nil, atI_0, atI_1, atI_2, atI_3, atI_4, ixN_5_0, ixN_5_1, ixN_5_2, ixN_5_3, ixN_5_4, D.bl.injEq, D.int.injEq, D.lst.injEq, D.tup.injEq, D.str.injEq, Sl.own.injEq, Sl.val.injEq, Option.some.injEq, exists_eq_left', exists_eq_left, exists_eq', exists_eq, or_true, true_or, or_false, false_or, CMul, CPow, natAbs_10, natAbs_2, Int.cast_ofNat_Int, Nat.reducePow, exists_and_left, exists_const, and_assoc, true_and, and_true, and_self, false_and, and_false, if_true, if_false, ite_true, ite_false, reduceCtorEq, decide_true, decide_false, decide_eq_true_eq, decide_eq_false_iff_not, Bool.not_true, Bool.not_false, Bool.false_eq_true, List.replicate_zero, List.replicate_succ, List.map_cons, List.map_nil, List.nil_append, List.cons_append, Nat.reduceSub, Nat.reduceAdd, Nat.reduceLeDiff, Nat.reduceLT, Int.reduceLT, Int.reduceLE, Int.reduceAdd, Int.reduceSub, Int.reduceMul, Int.reduceNeg, Int.reduceMod, Int.reduceDiv, Int.reducePow, Int.reduceToNat, okD_int, okD_bl, okD_lst, okD_tup, okD_non, okL_nil, okL_cons, okD_str, okL_int, eqD_int, eqD_bl, eqD_str, eqD_tup, eqD_lst, eqL_cons, eqL_nil, eqL_cn, eqL_nc, eqL_int, Bool.and_eq_true, Bool.or_eq_true, Bool.not_eq_true', Bool.and_false, Bool.false_and, Bool.or_false, Bool.false_or, Bool.or_true, Bool.true_or, Bool.and_true, Bool.true_and, Bool.and_self, wIsT2, wDct0, wLstOf, wRepF, wAsgH, DV.hN, hIx, hCons, hNil, hTup, wLM, gCnt, gIdx, gList, gSorted, wAppPop, wRaise0, wRaise1, wTry, wIsE, wAct, wFl, flD, okD_bl])
      unfold B__law_is_2
      simp only [wSeq, wAsg, wOwn, wF, wLc, wSkip, wBrk, wCnt, wRet, wRetF, wRetN, wDrop, wIfS, wPar, wFor, wWh, wV, wApp, wExt, wSetIx, wAug, wVal, wLook, wC, wOp, wTst, wChain, wAnd, wOr, wNot, wAndV, wOrV, wNotV, wIf, wNil, wCons, wTup, wLst, wCall, wCB, wIsT, wiR1, wiR2, wiSq, wiEn, wiZip, gN, gT1, gT2, gT3, gT4, gT5, gT6, gT7, wYes, gAdd, DV.gSub, gMul, gMod, gDiv, gPow, gLt, gLe, gGt, gGe, gCmp, gEq, gNe, gIs, gIsN, DV.isNon, gIn, gNotIn, gIx, gSlc, wSlc, wNoP, wPart, gLen, gAbs, gInt, gMin2, gMax2, gAll, gAny, gSum, gTuple, wNeg, wRev, itemsOf, D.isTy, D.isHand, Sl.toD, big_0, big_1, big_2, big_3, big_4, big_5, big_6, big_7, big_8, big_9, big_10, big_11, big_12, draw_iff, own_ex, val_ex, wipeE, restE, Sl.keep, Option.getD_some, get_z, get_s, set_z, set_s, List.length_cons, List.length_nil, atI_0, atI_1, atI_2, atI_3, atI_4, ixN_5_0, ixN_5_1, ixN_5_2, ixN_5_3, ixN_5_4, D.bl.injEq, D.int.injEq, D.lst.injEq, D.tup.injEq, D.str.injEq, Sl.own.injEq, Sl.val.injEq, Option.some.injEq, exists_eq_left', exists_eq_left, exists_eq', exists_eq, or_true, true_or, or_false, false_or, CMul, CPow, natAbs_10, natAbs_2, Int.cast_ofNat_Int, Nat.reducePow, exists_and_left, exists_const, and_assoc, true_and, and_true, and_self, false_and, and_false, if_true, if_false, ite_true, ite_false, reduceCtorEq, decide_true, decide_false, decide_eq_true_eq, decide_eq_false_iff_not, Bool.not_true, Bool.not_false, Bool.false_eq_true, List.replicate_zero, List.replicate_succ, List.map_cons, List.map_nil, List.nil_append, List.cons_append, Nat.reduceSub, Nat.reduceAdd, Nat.reduceLeDiff, Nat.reduceLT, Int.reduceLT, Int.reduceLE, Int.reduceAdd, Int.reduceSub, Int.reduceMul, Int.reduceNeg, Int.reduceMod, Int.reduceDiv, Int.reducePow, Int.reduceToNat, okD_int, okD_bl, okD_lst, okD_tup, okD_non, okL_nil, okL_cons, okD_str, okL_int, eqD_int, eqD_bl, eqD_str, eqD_tup, eqD_lst, eqL_cons, eqL_nil, eqL_cn, eqL_nc, eqL_int, Bool.and_eq_true, Bool.or_eq_true, Bool.not_eq_true', Bool.and_false, Bool.false_and, Bool.or_false, Bool.false_or, Bool.or_true, Bool.true_or, Bool.and_true, Bool.true_and, Bool.and_self, wIsT2, wDct0, wLstOf, wRepF, wAsgH, DV.hN, hIx, hCons, hNil, hTup, wLM, gCnt, gIdx, gList, gSorted, wAppPop, wRaise0, wRaise1, wTry, wIsE, wAct, wFl, flD, okD_bl, eqD_bl]
      unfold B__law_is_4
      simp only [wSeq, wAsg, wOwn, wF, wLc, wSkip, wBrk, wCnt, wRet, wRetF, wRetN, wDrop, wIfS, wPar, wFor, wWh, wV, wApp, wExt, wSetIx, wAug, wVal, wLook, wC, wOp, wTst, wChain, wAnd, wOr, wNot, wAndV, wOrV, wNotV, wIf, wNil, wCons, wTup, wLst, wCall, wCB, wIsT, wiR1, wiR2, wiSq, wiEn, wiZip, gN, gT1, gT2, gT3, gT4, gT5, gT6, gT7, wYes, gAdd, DV.gSub, gMul, gMod, gDiv, gPow, gLt, gLe, gGt, gGe, gCmp, gEq, gNe, gIs, gIsN, DV.isNon, gIn, gNotIn, gIx, gSlc, wSlc, wNoP, wPart, gLen, gAbs, gInt, gMin2, gMax2, gAll, gAny, gSum, gTuple, wNeg, wRev, itemsOf, D.isTy, D.isHand, Sl.toD, big_0, big_1, big_2, big_3, big_4, big_5, big_6, big_7, big_8, big_9, big_10, big_11, big_12, draw_iff, own_ex, val_ex, wipeE, restE, Sl.keep, Option.getD_some, get_z, get_s, set_z, set_s, List.length_cons, List.length_nil, atI_0, atI_1, atI_2, atI_3, atI_4, ixN_5_0, ixN_5_1, ixN_5_2, ixN_5_3, ixN_5_4, D.bl.injEq, D.int.injEq, D.lst.injEq, D.tup.injEq, D.str.injEq, Sl.own.injEq, Sl.val.injEq, Option.some.injEq, exists_eq_left', exists_eq_left, exists_eq', exists_eq, or_true, true_or, or_false, false_or, CMul, CPow, natAbs_10, natAbs_2, Int.cast_ofNat_Int, Nat.reducePow, exists_and_left, exists_const, and_assoc, true_and, and_true, and_self, false_and, and_false, if_true, if_false, ite_true, ite_false, reduceCtorEq, decide_true, decide_false, decide_eq_true_eq, decide_eq_false_iff_not, Bool.not_true, Bool.not_false, Bool.false_eq_true, List.replicate_zero, List.replicate_succ, List.map_cons, List.map_nil, List.nil_append, List.cons_append, Nat.reduceSub, Nat.reduceAdd, Nat.reduceLeDiff, Nat.reduceLT, Int.reduceLT, Int.reduceLE, Int.reduceAdd, Int.reduceSub, Int.reduceMul, Int.reduceNeg, Int.reduceMod, Int.reduceDiv, Int.reducePow, Int.reduceToNat, okD_int, okD_bl, okD_lst, okD_tup, okD_non, okL_nil, okL_cons, okD_str, okL_int, eqD_int, eqD_bl, eqD_str, eqD_tup, eqD_lst, eqL_cons, eqL_nil, eqL_cn, eqL_nc, eqL_int, Bool.and_eq_true, Bool.or_eq_true, Bool.not_eq_true', Bool.and_false, Bool.false_and, Bool.or_false, Bool.false_or, Bool.or_true, Bool.true_or, Bool.and_true, Bool.true_and, Bool.and_self, wIsT2, wDct0, wLstOf, wRepF, wAsgH, DV.hN, hIx, hCons, hNil, hTup, wLM, gCnt, gIdx, gList, gSorted, wAppPop, wRaise0, wRaise1, wTry, wIsE, wAct, wFl, flD, okD_bl, eqD_int]
      unfold B__law_is_6
      (try simp only [wSeq, wAsg, wOwn, wF, wLc, wSkip, wBrk, wCnt, wRet, wRetF, wRetN, wDrop, wIfS, wPar, wFor, wWh, wV, wApp, wExt, wSetIx, wAug, wVal, wLook, wC, wOp, wTst, wChain, wAnd, wOr, wNot, wAndV, wOrV, wNotV, wIf, wNil, wCons, wTup, wLst, wCall, wCB, wIsT, wiR1, wiR2, wiSq, wiEn, wiZip, gN, gT1, gT2, gT3, gT4, gT5, gT6, gT7, wYes, gAdd, DV.gSub, gMul, gMod, gDiv, gPow, gLt, gLe, gGt, gGe, gCmp, gEq, gNe, gIs, gIsN, DV.isNon, gIn, gNotIn, gIx, gSlc, wSlc, wNoP, wPart, gLen, gAbs, gInt, gMin2, gMax2, gAll, gAny, gSum, gTuple, wNeg, wRev, itemsOf, D.isTy, D.isHand, Sl.toD, big_0, big_1, big_2, big_3, big_4, big_5, big_6, big_7, big_8, big_9, big_10, big_11, big_12, draw_iff, own_ex, val_ex, wipeE, restE, Sl.keep, Option.getD_some, get_z, get_s, set_z, set_s, List.length_cons, List.length_nil, atI_0, atI_1, atI_2, atI_3, atI_4, ixN_5_0, ixN_5_1, ixN_5_2, ixN_5_3, ixN_5_4, D.bl.injEq, D.int.injEq, D.lst.injEq, D.tup.injEq, D.str.injEq, Sl.own.injEq, Sl.val.injEq, Option.some.injEq, exists_eq_left', exists_eq_left, exists_eq', exists_eq, or_true, true_or, or_false, false_or, CMul, CPow, natAbs_10, natAbs_2, Int.cast_ofNat_Int, Nat.reducePow, exists_and_left, exists_const, and_assoc, true_and, and_true, and_self, false_and, and_false, if_true, if_false, ite_true, ite_false, reduceCtorEq, decide_true, decide_false, decide_eq_true_eq, decide_eq_false_iff_not, Bool.not_true, Bool.not_false, Bool.false_eq_true, List.replicate_zero, List.replicate_succ, List.map_cons, List.map_nil, List.nil_append, List.cons_append, Nat.reduceSub, Nat.reduceAdd, Nat.reduceLeDiff, Nat.reduceLT, Int.reduceLT, Int.reduceLE, Int.reduceAdd, Int.reduceSub, Int.reduceMul, Int.reduceNeg, Int.reduceMod, Int.reduceDiv, Int.reducePow, Int.reduceToNat, okD_int, okD_bl, okD_lst, okD_tup, okD_non, okL_nil, okL_cons, okD_str, okL_int, eqD_int, eqD_bl, eqD_str, eqD_tup, eqD_lst, eqL_cons, eqL_nil, eqL_cn, eqL_nc, eqL_int, Bool.and_eq_true, Bool.or_eq_true, Bool.not_eq_true', Bool.and_false, Bool.false_and, Bool.or_false, Bool.false_or, Bool.or_true, Bool.true_or, Bool.and_true, Bool.true_and, Bool.and_self, wIsT2, wDct0, wLstOf, wRepF, wAsgH, DV.hN, hIx, hCons, hNil, hTup, wLM, gCnt, gIdx, gList, gSorted, wAppPop, wRaise0, wRaise1, wTry, wIsE, wAct, wFl, flD, okD_bl])
      exact ⟨by rw [zipD_len]; omega, seq xs h2 _ fun a => by
        simp only [wSeq, wAsg, wOwn, wF, wLc, wSkip, wBrk, wCnt, wRet, wRetF, wRetN, wDrop, wIfS, wPar, wFor, wWh, wV, wApp, wExt, wSetIx, wAug, wVal, wLook, wC, wOp, wTst, wChain, wAnd, wOr, wNot, wAndV, wOrV, wNotV, wIf, wNil, wCons, wTup, wLst, wCall, wCB, wIsT, wiR1, wiR2, wiSq, wiEn, wiZip, gN, gT1, gT2, gT3, gT4, gT5, gT6, gT7, wYes, gAdd, DV.gSub, gMul, gMod, gDiv, gPow, gLt, gLe, gGt, gGe, gCmp, gEq, gNe, gIs, gIsN, DV.isNon, gIn, gNotIn, gIx, gSlc, wSlc, wNoP, wPart, gLen, gAbs, gInt, gMin2, gMax2, gAll, gAny, gSum, gTuple, wNeg, wRev, itemsOf, D.isTy, D.isHand, Sl.toD, big_0, big_1, big_2, big_3, big_4, big_5, big_6, big_7, big_8, big_9, big_10, big_11, big_12, draw_iff, own_ex, val_ex, wipeE, restE, Sl.keep, Option.getD_some, get_z, get_s, set_z, set_s, List.length_cons, List.length_nil, atI_0, atI_1, atI_2, atI_3, atI_4, ixN_5_0, ixN_5_1, ixN_5_2, ixN_5_3, ixN_5_4, D.bl.injEq, D.int.injEq, D.lst.injEq, D.tup.injEq, D.str.injEq, Sl.own.injEq, Sl.val.injEq, Option.some.injEq, exists_eq_left', exists_eq_left, exists_eq', exists_eq, or_true, true_or, or_false, false_or, CMul, CPow, natAbs_10, natAbs_2, Int.cast_ofNat_Int, Nat.reducePow, exists_and_left, exists_const, and_assoc, true_and, and_true, and_self, false_and, and_false, if_true, if_false, ite_true, ite_false, reduceCtorEq, decide_true, decide_false, decide_eq_true_eq, decide_eq_false_iff_not, Bool.not_true, Bool.not_false, Bool.false_eq_true, List.replicate_zero, List.replicate_succ, List.map_cons, List.map_nil, List.nil_append, List.cons_append, Nat.reduceSub, Nat.reduceAdd, Nat.reduceLeDiff, Nat.reduceLT, Int.reduceLT, Int.reduceLE, Int.reduceAdd, Int.reduceSub, Int.reduceMul, Int.reduceNeg, Int.reduceMod, Int.reduceDiv, Int.reducePow, Int.reduceToNat, okD_int, okD_bl, okD_lst, okD_tup, okD_non, okL_nil, okL_cons, okD_str, okL_int, eqD_int, eqD_bl, eqD_str, eqD_tup, eqD_lst, eqL_cons, eqL_nil, eqL_cn, eqL_nc, eqL_int, Bool.and_eq_true, Bool.or_eq_true, Bool.not_eq_true', Bool.and_false, Bool.false_and, Bool.or_false, Bool.false_or, Bool.or_true, Bool.true_or, Bool.and_true, Bool.true_and, Bool.and_self, wIsT2, wDct0, wLstOf, wRepF, wAsgH, DV.hN, hIx, hCons, hNil, hTup, wLM, gCnt, gIdx, gList, gSorted, wAppPop, wRaise0, wRaise1, wTry, wIsE, wAct, wFl, flD, okD_bl, tb, al]
        exact q⟩
    | lst xs =>
      obtain ⟨h1, h2⟩ := h
      (try simp only [wSeq, wAsg, wOwn, wF, wLc, wSkip, wBrk, wCnt, wRet, wRetF, wRetN, wDrop, wIfS, wPar, wFor, wWh, wV, wApp, wExt, wSetIx, wAug, wVal, wLook, wC, wOp, wTst, wChain, wAnd, wOr, wNot, wAndV, wOrV, wNotV, wIf, wNil, wCons, wTup, wLst, wCall, wCB, wIsT, wiR1, wiR2, wiSq, wiEn, wiZip, gN, gT1, gT2, gT3, gT4, gT5, gT6, gT7, wYes, gAdd, DV.gSub, gMul, gMod, gDiv, gPow, gLt, gLe, gGt, gGe, gCmp, gEq, gNe, gIs, gIsN, DV.isNon, gIn, gNotIn, gIx, gSlc, wSlc, wNoP, wPart, gLen, gAbs, gInt, gMin2, gMax2, gAll, gAny, gSum, gTuple, wNeg, wRev, itemsOf, D.isTy, D.isHand, Sl.toD, big_0, big_1, big_2, big_3, big_4, big_5, big_6, big_7, big_8, big_9, big_10, big_11, big_12, draw_iff, own_ex, val_ex, wipeE, restE, Sl.keep, Option.getD_some, get_z, get_s, set_z, set_s, List.length_cons, List.length_nil, atI_0, atI_1, atI_2, atI_3, atI_4, ixN_5_0, ixN_5_1, ixN_5_2, ixN_5_3, ixN_5_4, D.bl.injEq, D.int.injEq, D.lst.injEq, D.tup.injEq, D.str.injEq, Sl.own.injEq, Sl.val.injEq, Option.some.injEq, exists_eq_left', exists_eq_left, exists_eq', exists_eq, or_true, true_or, or_false, false_or, CMul, CPow, natAbs_10, natAbs_2, Int.cast_ofNat_Int, Nat.reducePow, exists_and_left, exists_const, and_assoc, true_and, and_true, and_self, false_and, and_false, if_true, if_false, ite_true, ite_false, reduceCtorEq, decide_true, decide_false, decide_eq_true_eq, decide_eq_false_iff_not, Bool.not_true, Bool.not_false, Bool.false_eq_true, List.replicate_zero, List.replicate_succ, List.map_cons, List.map_nil, List.nil_append, List.cons_append, Nat.reduceSub, Nat.reduceAdd, Nat.reduceLeDiff, Nat.reduceLT, Int.reduceLT, Int.reduceLE, Int.reduceAdd, Int.reduceSub, Int.reduceMul, Int.reduceNeg, Int.reduceMod, Int.reduceDiv, Int.reducePow, Int.reduceToNat, okD_int, okD_bl, okD_lst, okD_tup, okD_non, okL_nil, okL_cons, okD_str, okL_int, eqD_int, eqD_bl, eqD_str, eqD_tup, eqD_lst, eqL_cons, eqL_nil, eqL_cn, eqL_nc, eqL_int, Bool.and_eq_true, Bool.or_eq_true, Bool.not_eq_true', Bool.and_false, Bool.false_and, Bool.or_false, Bool.false_or, Bool.or_true, Bool.true_or, Bool.and_true, Bool.true_and, Bool.and_self, wIsT2, wDct0, wLstOf, wRepF, wAsgH, DV.hN, hIx, hCons, hNil, hTup, wLM, gCnt, gIdx, gList, gSorted, wAppPop, wRaise0, wRaise1, wTry, wIsE, wAct, wFl, flD, okD_bl])
      unfold B__law_is_2
      simp only [wSeq, wAsg, wOwn, wF, wLc, wSkip, wBrk, wCnt, wRet, wRetF, wRetN, wDrop, wIfS, wPar, wFor, wWh, wV, wApp, wExt, wSetIx, wAug, wVal, wLook, wC, wOp, wTst, wChain, wAnd, wOr, wNot, wAndV, wOrV, wNotV, wIf, wNil, wCons, wTup, wLst, wCall, wCB, wIsT, wiR1, wiR2, wiSq, wiEn, wiZip, gN, gT1, gT2, gT3, gT4, gT5, gT6, gT7, wYes, gAdd, DV.gSub, gMul, gMod, gDiv, gPow, gLt, gLe, gGt, gGe, gCmp, gEq, gNe, gIs, gIsN, DV.isNon, gIn, gNotIn, gIx, gSlc, wSlc, wNoP, wPart, gLen, gAbs, gInt, gMin2, gMax2, gAll, gAny, gSum, gTuple, wNeg, wRev, itemsOf, D.isTy, D.isHand, Sl.toD, big_0, big_1, big_2, big_3, big_4, big_5, big_6, big_7, big_8, big_9, big_10, big_11, big_12, draw_iff, own_ex, val_ex, wipeE, restE, Sl.keep, Option.getD_some, get_z, get_s, set_z, set_s, List.length_cons, List.length_nil, atI_0, atI_1, atI_2, atI_3, atI_4, ixN_5_0, ixN_5_1, ixN_5_2, ixN_5_3, ixN_5_4, D.bl.injEq, D.int.injEq, D.lst.injEq, D.tup.injEq, D.str.injEq, Sl.own.injEq, Sl.val.injEq, Option.some.injEq, exists_eq_left', exists_eq_left, exists_eq', exists_eq, or_true, true_or, or_false, false_or, CMul, CPow, natAbs_10, natAbs_2, Int.cast_ofNat_Int, Nat.reducePow, exists_and_left, exists_const, and_assoc, true_and, and_true, and_self, false_and, and_false, if_true, if_false, ite_true, ite_false, reduceCtorEq, decide_true, decide_false, decide_eq_true_eq, decide_eq_false_iff_not, Bool.not_true, Bool.not_false, Bool.false_eq_true, List.replicate_zero, List.replicate_succ, List.map_cons, List.map_nil, List.nil_append, List.cons_append, Nat.reduceSub, Nat.reduceAdd, Nat.reduceLeDiff, Nat.reduceLT, Int.reduceLT, Int.reduceLE, Int.reduceAdd, Int.reduceSub, Int.reduceMul, Int.reduceNeg, Int.reduceMod, Int.reduceDiv, Int.reducePow, Int.reduceToNat, okD_int, okD_bl, okD_lst, okD_tup, okD_non, okL_nil, okL_cons, okD_str, okL_int, eqD_int, eqD_bl, eqD_str, eqD_tup, eqD_lst, eqL_cons, eqL_nil, eqL_cn, eqL_nc, eqL_int, Bool.and_eq_true, Bool.or_eq_true, Bool.not_eq_true', Bool.and_false, Bool.false_and, Bool.or_false, Bool.false_or, Bool.or_true, Bool.true_or, Bool.and_true, Bool.true_and, Bool.and_self, wIsT2, wDct0, wLstOf, wRepF, wAsgH, DV.hN, hIx, hCons, hNil, hTup, wLM, gCnt, gIdx, gList, gSorted, wAppPop, wRaise0, wRaise1, wTry, wIsE, wAct, wFl, flD, okD_bl, eqD_bl]
      unfold B__law_is_4
      simp only [wSeq, wAsg, wOwn, wF, wLc, wSkip, wBrk, wCnt, wRet, wRetF, wRetN, wDrop, wIfS, wPar, wFor, wWh, wV, wApp, wExt, wSetIx, wAug, wVal, wLook, wC, wOp, wTst, wChain, wAnd, wOr, wNot, wAndV, wOrV, wNotV, wIf, wNil, wCons, wTup, wLst, wCall, wCB, wIsT, wiR1, wiR2, wiSq, wiEn, wiZip, gN, gT1, gT2, gT3, gT4, gT5, gT6, gT7, wYes, gAdd, DV.gSub, gMul, gMod, gDiv, gPow, gLt, gLe, gGt, gGe, gCmp, gEq, gNe, gIs, gIsN, DV.isNon, gIn, gNotIn, gIx, gSlc, wSlc, wNoP, wPart, gLen, gAbs, gInt, gMin2, gMax2, gAll, gAny, gSum, gTuple, wNeg, wRev, itemsOf, D.isTy, D.isHand, Sl.toD, big_0, big_1, big_2, big_3, big_4, big_5, big_6, big_7, big_8, big_9, big_10, big_11, big_12, draw_iff, own_ex, val_ex, wipeE, restE, Sl.keep, Option.getD_some, get_z, get_s, set_z, set_s, List.length_cons, List.length_nil, atI_0, atI_1, atI_2, atI_3, atI_4, ixN_5_0, ixN_5_1, ixN_5_2, ixN_5_3, ixN_5_4, D.bl.injEq, D.int.injEq, D.lst.injEq, D.tup.injEq, D.str.injEq, Sl.own.injEq, Sl.val.injEq, Option.some.injEq, exists_eq_left', exists_eq_left, exists_eq', exists_eq, or_true, true_or, or_false, false_or, CMul, CPow, natAbs_10, natAbs_2, Int.cast_ofNat_Int, Nat.reducePow, exists_and_left, exists_const, and_assoc, true_and, and_true, and_self, false_and, and_false, if_true, if_false, ite_true, ite_false, reduceCtorEq, decide_true, decide_false, decide_eq_true_eq, decide_eq_false_iff_not, Bool.not_true, Bool.not_false, Bool.false_eq_true, List.replicate_zero, List.replicate_succ, List.map_cons, List.map_nil, List.nil_append, List.cons_append, Nat.reduceSub, Nat.reduceAdd, Nat.reduceLeDiff, Nat.reduceLT, Int.reduceLT, Int.reduceLE, Int.reduceAdd, Int.reduceSub, Int.reduceMul, Int.reduceNeg, Int.reduceMod, Int.reduceDiv, Int.reducePow, Int.reduceToNat, okD_int, okD_bl, okD_lst, okD_tup, okD_non, okL_nil, okL_cons, okD_str, okL_int, eqD_int, eqD_bl, eqD_str, eqD_tup, eqD_lst, eqL_cons, eqL_nil, eqL_cn, eqL_nc, eqL_int, Bool.and_eq_true, Bool.or_eq_true, Bool.not_eq_true', Bool.and_false, Bool.false_and, Bool.or_false, Bool.false_or, Bool.or_true, Bool.true_or, Bool.and_true, Bool.true_and, Bool.and_self, wIsT2, wDct0, wLstOf, wRepF, wAsgH, DV.hN, hIx, hCons, hNil, hTup, wLM, gCnt, gIdx, gList, gSorted, wAppPop, wRaise0, wRaise1, wTry, wIsE, wAct, wFl, flD, okD_bl, eqD_int]
      unfold B__law_is_6
      (try simp only [wSeq, wAsg, wOwn, wF, wLc, wSkip, wBrk, wCnt, wRet, wRetF, wRetN, wDrop, wIfS, wPar, wFor, wWh, wV, wApp, wExt, wSetIx, wAug, wVal, wLook, wC, wOp, wTst, wChain, wAnd, wOr, wNot, wAndV, wOrV, wNotV, wIf, wNil, wCons, wTup, wLst, wCall, wCB, wIsT, wiR1, wiR2, wiSq, wiEn, wiZip, gN, gT1, gT2, gT3, gT4, gT5, gT6, gT7, wYes, gAdd, DV.gSub, gMul, gMod, gDiv, gPow, gLt, gLe, gGt, gGe, gCmp, gEq, gNe, gIs, gIsN, DV.isNon, gIn, gNotIn, gIx, gSlc, wSlc, wNoP, wPart, gLen, gAbs, gInt, gMin2, gMax2, gAll, gAny, gSum, gTuple, wNeg, wRev, itemsOf, D.isTy, D.isHand, Sl.toD, big_0, big_1, big_2, big_3, big_4, big_5, big_6, big_7, big_8, big_9, big_10, big_11, big_12, draw_iff, own_ex, val_ex, wipeE, restE, Sl.keep, Option.getD_some, get_z, get_s, set_z, set_s, List.length_cons, List.length_nil, atI_0, atI_1, atI_2, atI_3, atI_4, ixN_5_0, ixN_5_1, ixN_5_2, ixN_5_3, ixN_5_4, D.bl.injEq, D.int.injEq, D.lst.injEq, D.tup.injEq, D.str.injEq, Sl.own.injEq, Sl.val.injEq, Option.some.injEq, exists_eq_left', exists_eq_left, exists_eq', exists_eq, or_true, true_or, or_false, false_or, CMul, CPow, natAbs_10, natAbs_2, Int.cast_ofNat_Int, Nat.reducePow, exists_and_left, exists_const, and_assoc, true_and, and_true, and_self, false_and, and_false, if_true, if_false, ite_true, ite_false, reduceCtorEq, decide_true, decide_false, decide_eq_true_eq, decide_eq_false_iff_not, Bool.not_true, Bool.not_false, Bool.false_eq_true, List.replicate_zero, List.replicate_succ, List.map_cons, List.map_nil, List.nil_append, List.cons_append, Nat.reduceSub, Nat.reduceAdd, Nat.reduceLeDiff, Nat.reduceLT, Int.reduceLT, Int.reduceLE, Int.reduceAdd, Int.reduceSub, Int.reduceMul, Int.reduceNeg, Int.reduceMod, Int.reduceDiv, Int.reducePow, Int.reduceToNat, okD_int, okD_bl, okD_lst, okD_tup, okD_non, okL_nil, okL_cons, okD_str, okL_int, eqD_int, eqD_bl, eqD_str, eqD_tup, eqD_lst, eqL_cons, eqL_nil, eqL_cn, eqL_nc, eqL_int, Bool.and_eq_true, Bool.or_eq_true, Bool.not_eq_true', Bool.and_false, Bool.false_and, Bool.or_false, Bool.false_or, Bool.or_true, Bool.true_or, Bool.and_true, Bool.true_and, Bool.and_self, wIsT2, wDct0, wLstOf, wRepF, wAsgH, DV.hN, hIx, hCons, hNil, hTup, wLM, gCnt, gIdx, gList, gSorted, wAppPop, wRaise0, wRaise1, wTry, wIsE, wAct, wFl, flD, okD_bl])
      exact ⟨by rw [zipD_len]; omega, seq xs h2 _ fun a => by
        simp only [wSeq, wAsg, wOwn, wF, wLc, wSkip, wBrk, wCnt, wRet, wRetF, wRetN, wDrop, wIfS, wPar, wFor, wWh, wV, wApp, wExt, wSetIx, wAug, wVal, wLook, wC, wOp, wTst, wChain, wAnd, wOr, wNot, wAndV, wOrV, wNotV, wIf, wNil, wCons, wTup, wLst, wCall, wCB, wIsT, wiR1, wiR2, wiSq, wiEn, wiZip, gN, gT1, gT2, gT3, gT4, gT5, gT6, gT7, wYes, gAdd, DV.gSub, gMul, gMod, gDiv, gPow, gLt, gLe, gGt, gGe, gCmp, gEq, gNe, gIs, gIsN, DV.isNon, gIn, gNotIn, gIx, gSlc, wSlc, wNoP, wPart, gLen, gAbs, gInt, gMin2, gMax2, gAll, gAny, gSum, gTuple, wNeg, wRev, itemsOf, D.isTy, D.isHand, Sl.toD, big_0, big_1, big_2, big_3, big_4, big_5, big_6, big_7, big_8, big_9, big_10, big_11, big_12, draw_iff, own_ex, val_ex, wipeE, restE, Sl.keep, Option.getD_some, get_z, get_s, set_z, set_s, List.length_cons, List.length_nil, atI_0, atI_1, atI_2, atI_3, atI_4, ixN_5_0, ixN_5_1, ixN_5_2, ixN_5_3, ixN_5_4, D.bl.injEq, D.int.injEq, D.lst.injEq, D.tup.injEq, D.str.injEq, Sl.own.injEq, Sl.val.injEq, Option.some.injEq, exists_eq_left', exists_eq_left, exists_eq', exists_eq, or_true, true_or, or_false, false_or, CMul, CPow, natAbs_10, natAbs_2, Int.cast_ofNat_Int, Nat.reducePow, exists_and_left, exists_const, and_assoc, true_and, and_true, and_self, false_and, and_false, if_true, if_false, ite_true, ite_false, reduceCtorEq, decide_true, decide_false, decide_eq_true_eq, decide_eq_false_iff_not, Bool.not_true, Bool.not_false, Bool.false_eq_true, List.replicate_zero, List.replicate_succ, List.map_cons, List.map_nil, List.nil_append, List.cons_append, Nat.reduceSub, Nat.reduceAdd, Nat.reduceLeDiff, Nat.reduceLT, Int.reduceLT, Int.reduceLE, Int.reduceAdd, Int.reduceSub, Int.reduceMul, Int.reduceNeg, Int.reduceMod, Int.reduceDiv, Int.reducePow, Int.reduceToNat, okD_int, okD_bl, okD_lst, okD_tup, okD_non, okL_nil, okL_cons, okD_str, okL_int, eqD_int, eqD_bl, eqD_str, eqD_tup, eqD_lst, eqL_cons, eqL_nil, eqL_cn, eqL_nc, eqL_int, Bool.and_eq_true, Bool.or_eq_true, Bool.not_eq_true', Bool.and_false, Bool.false_and, Bool.or_false, Bool.false_or, Bool.or_true, Bool.true_or, Bool.and_true, Bool.true_and, Bool.and_self, wIsT2, wDct0, wLstOf, wRepF, wAsgH, DV.hN, hIx, hCons, hNil, hTup, wLM, gCnt, gIdx, gList, gSorted, wAppPop, wRaise0, wRaise1, wTry, wIsE, wAct, wFl, flD, okD_bl, tb, al]
        exact q⟩
    | dct _ => exact h.elim
    | obj _ _ => exact h.elim
    | frz _ => exact h.elim
    | hand => exact h.elim
theorem sp_law_common {a b : Nat} (h : Q (.int (Nat.gcd a b : Nat))) : T__law_common [.int a, .int b] Q E := by
  unfold T__law_common wFn B__law_common
  (try simp only [wSeq, wAsg, wOwn, wF, wLc, wSkip, wBrk, wCnt, wRet, wRetF, wRetN, wDrop, wIfS, wPar, wFor, wWh, wV, wApp, wExt, wSetIx, wAug, wVal, wLook, wC, wOp, wTst, wChain, wAnd, wOr, wNot, wAndV, wOrV, wNotV, wIf, wNil, wCons, wTup, wLst, wCall, wCB, wIsT, wiR1, wiR2, wiSq, wiEn, wiZip, gN, gT1, gT2, gT3, gT4, gT5, gT6, gT7, wYes, gAdd, DV.gSub, gMul, gMod, gDiv, gPow, gLt, gLe, gGt, gGe, gCmp, gEq, gNe, gIs, gIsN, DV.isNon, gIn, gNotIn, gIx, gSlc, wSlc, wNoP, wPart, gLen, gAbs, gInt, gMin2, gMax2, gAll, gAny, gSum, gTuple, wNeg, wRev, itemsOf, D.isTy, D.isHand, Sl.toD, big_0, big_1, big_2, big_3, big_4, big_5, big_6, big_7, big_8, big_9, big_10, big_11, big_12, draw_iff, own_ex, val_ex, wipeE, restE, Sl.keep, Option.getD_some, get_z, get_s, set_z, set_s, List.length_cons, List.length_nil, atI_0, atI_1, atI_2, atI_3, atI_4, ixN_5_0, ixN_5_1, ixN_5_2, ixN_5_3, ixN_5_4, D.bl.injEq, D.int.injEq, D.lst.injEq, D.tup.injEq, D.str.injEq, Sl.own.injEq, Sl.val.injEq, Option.some.injEq, exists_eq_left', exists_eq_left, exists_eq', exists_eq, or_true, true_or, or_false, false_or, CMul, CPow, natAbs_10, natAbs_2, Int.cast_ofNat_Int, Nat.reducePow, exists_and_left, exists_const, and_assoc, true_and, and_true, and_self, false_and, and_false, if_true, if_false, ite_true, ite_false, reduceCtorEq, decide_true, decide_false, decide_eq_true_eq, decide_eq_false_iff_not, Bool.not_true, Bool.not_false, Bool.false_eq_true, List.replicate_zero, List.replicate_succ, List.map_cons, List.map_nil, List.nil_append, List.cons_append, Nat.reduceSub, Nat.reduceAdd, Nat.reduceLeDiff, Nat.reduceLT, Int.reduceLT, Int.reduceLE, Int.reduceAdd, Int.reduceSub, Int.reduceMul, Int.reduceNeg, Int.reduceMod, Int.reduceDiv, Int.reducePow, Int.reduceToNat, okD_int, okD_bl, okD_lst, okD_tup, okD_non, okL_nil, okL_cons, okD_str, okL_int, eqD_int, eqD_bl, eqD_str, eqD_tup, eqD_lst, eqL_cons, eqL_nil, eqL_cn, eqL_nc, eqL_int, Bool.and_eq_true, Bool.or_eq_true, Bool.not_eq_true', Bool.and_false, Bool.false_and, Bool.or_false, Bool.false_or, Bool.or_true, Bool.true_or, Bool.and_true, Bool.true_and, Bool.and_self, wIsT2, wDct0, wLstOf, wRepF, wAsgH, DV.hN, hIx, hCons, hNil, hTup, wLM, gCnt, gIdx, gList, gSorted, wAppPop, wRaise0, wRaise1, wTry, wIsE, wAct, wFl, flD, okD_bl])
  refine wh_ind (fun m env => ∃ x y : Nat, m = y ∧ Nat.gcd x y = Nat.gcd a b ∧ env = [.val (.int x), .val (.int y)]) (fun m env hI nx hn => ?_) ⟨a, b, rfl, rfl, rfl⟩
  obtain ⟨x, y, rfl, hg, rfl⟩ := hI
  (try simp only [wSeq, wAsg, wOwn, wF, wLc, wSkip, wBrk, wCnt, wRet, wRetF, wRetN, wDrop, wIfS, wPar, wFor, wWh, wV, wApp, wExt, wSetIx, wAug, wVal, wLook, wC, wOp, wTst, wChain, wAnd, wOr, wNot, wAndV, wOrV, wNotV, wIf, wNil, wCons, wTup, wLst, wCall, wCB, wIsT, wiR1, wiR2, wiSq, wiEn, wiZip, gN, gT1, gT2, gT3, gT4, gT5, gT6, gT7, wYes, gAdd, DV.gSub, gMul, gMod, gDiv, gPow, gLt, gLe, gGt, gGe, gCmp, gEq, gNe, gIs, gIsN, DV.isNon, gIn, gNotIn, gIx, gSlc, wSlc, wNoP, wPart, gLen, gAbs, gInt, gMin2, gMax2, gAll, gAny, gSum, gTuple, wNeg, wRev, itemsOf, D.isTy, D.isHand, Sl.toD, big_0, big_1, big_2, big_3, big_4, big_5, big_6, big_7, big_8, big_9, big_10, big_11, big_12, draw_iff, own_ex, val_ex, wipeE, restE, Sl.keep, Option.getD_some, get_z, get_s, set_z, set_s, List.length_cons, List.length_nil, atI_0, atI_1, atI_2, atI_3, atI_4, ixN_5_0, ixN_5_1, ixN_5_2, ixN_5_3, ixN_5_4, D.bl.injEq, D.int.injEq, D.lst.injEq, D.tup.injEq, D.str.injEq, Sl.own.injEq, Sl.val.injEq, Option.some.injEq, exists_eq_left', exists_eq_left, exists_eq', exists_eq, or_true, true_or, or_false, false_or, CMul, CPow, natAbs_10, natAbs_2, Int.cast_ofNat_Int, Nat.reducePow, exists_and_left, exists_const, and_assoc, true_and, and_true, and_self, false_and, and_false, if_true, if_false, ite_true, ite_false, reduceCtorEq, decide_true, decide_false, decide_eq_true_eq, decide_eq_false_iff_not, Bool.not_true, Bool.not_false, Bool.false_eq_true, List.replicate_zero, List.replicate_succ, List.map_cons, List.map_nil, List.nil_append, List.cons_append, Nat.reduceSub, Nat.reduceAdd, Nat.reduceLeDiff, Nat.reduceLT, Int.reduceLT, Int.reduceLE, Int.reduceAdd, Int.reduceSub, Int.reduceMul, Int.reduceNeg, Int.reduceMod, Int.reduceDiv, Int.reducePow, Int.reduceToNat, okD_int, okD_bl, okD_lst, okD_tup, okD_non, okL_nil, okL_cons, okD_str, okL_int, eqD_int, eqD_bl, eqD_str, eqD_tup, eqD_lst, eqL_cons, eqL_nil, eqL_cn, eqL_nc, eqL_int, Bool.and_eq_true, Bool.or_eq_true, Bool.not_eq_true', Bool.and_false, Bool.false_and, Bool.or_false, Bool.false_or, Bool.or_true, Bool.true_or, Bool.and_true, Bool.true_and, Bool.and_self, wIsT2, wDct0, wLstOf, wRepF, wAsgH, DV.hN, hIx, hCons, hNil, hTup, wLM, gCnt, gIdx, gList, gSorted, wAppPop, wRaise0, wRaise1, wTry, wIsE, wAct, wFl, flD, okD_bl])
  by_cases hy : m = 0
  · subst hy
    simp only [wSeq, wAsg, wOwn, wF, wLc, wSkip, wBrk, wCnt, wRet, wRetF, wRetN, wDrop, wIfS, wPar, wFor, wWh, wV, wApp, wExt, wSetIx, wAug, wVal, wLook, wC, wOp, wTst, wChain, wAnd, wOr, wNot, wAndV, wOrV, wNotV, wIf, wNil, wCons, wTup, wLst, wCall, wCB, wIsT, wiR1, wiR2, wiSq, wiEn, wiZip, gN, gT1, gT2, gT3, gT4, gT5, gT6, gT7, wYes, gAdd, DV.gSub, gMul, gMod, gDiv, gPow, gLt, gLe, gGt, gGe, gCmp, gEq, gNe, gIs, gIsN, DV.isNon, gIn, gNotIn, gIx, gSlc, wSlc, wNoP, wPart, gLen, gAbs, gInt, gMin2, gMax2, gAll, gAny, gSum, gTuple, wNeg, wRev, itemsOf, D.isTy, D.isHand, Sl.toD, big_0, big_1, big_2, big_3, big_4, big_5, big_6, big_7, big_8, big_9, big_10, big_11, big_12, draw_iff, own_ex, val_ex, wipeE, restE, Sl.keep, Option.getD_some, get_z, get_s, set_z, set_s, List.length_cons, List.length_nil, atI_0, atI_1, atI_2, atI_3, atI_4, ixN_5_0, ixN_5_1, ixN_5_2, ixN_5_3, ixN_5_4, D.bl.injEq, D.int.injEq, D.lst.injEq, D.tup.injEq, D.str.injEq, Sl.own.injEq, Sl.val.injEq, Option.some.injEq, exists_eq_left', exists_eq_left, exists_eq', exists_eq, or_true, true_or, or_false, false_or, CMul, CPow, natAbs_10, natAbs_2, Int.cast_ofNat_Int, Nat.reducePow, exists_and_left, exists_const, and_assoc, true_and, and_true, and_self, false_and, and_false, if_true, if_false, ite_true, ite_false, reduceCtorEq, decide_true, decide_false, decide_eq_true_eq, decide_eq_false_iff_not, Bool.not_true, Bool.not_false, Bool.false_eq_true, List.replicate_zero, List.replicate_succ, List.map_cons, List.map_nil, List.nil_append, List.cons_append, Nat.reduceSub, Nat.reduceAdd, Nat.reduceLeDiff, Nat.reduceLT, Int.reduceLT, Int.reduceLE, Int.reduceAdd, Int.reduceSub, Int.reduceMul, Int.reduceNeg, Int.reduceMod, Int.reduceDiv, Int.reducePow, Int.reduceToNat, okD_int, okD_bl, okD_lst, okD_tup, okD_non, okL_nil, okL_cons, okD_str, okL_int, eqD_int, eqD_bl, eqD_str, eqD_tup, eqD_lst, eqL_cons, eqL_nil, eqL_cn, eqL_nc, eqL_int, Bool.and_eq_true, Bool.or_eq_true, Bool.not_eq_true', Bool.and_false, Bool.false_and, Bool.or_false, Bool.false_or, Bool.or_true, Bool.true_or, Bool.and_true, Bool.true_and, Bool.and_self, wIsT2, wDct0, wLstOf, wRepF, wAsgH, DV.hN, hIx, hCons, hNil, hTup, wLM, gCnt, gIdx, gList, gSorted, wAppPop, wRaise0, wRaise1, wTry, wIsE, wAct, wFl, flD, okD_bl, Int.natCast_zero]
    unfold B__law_common_3
    (try simp only [wSeq, wAsg, wOwn, wF, wLc, wSkip, wBrk, wCnt, wRet, wRetF, wRetN, wDrop, wIfS, wPar, wFor, wWh, wV, wApp, wExt, wSetIx, wAug, wVal, wLook, wC, wOp, wTst, wChain, wAnd, wOr, wNot, wAndV, wOrV, wNotV, wIf, wNil, wCons, wTup, wLst, wCall, wCB, wIsT, wiR1, wiR2, wiSq, wiEn, wiZip, gN, gT1, gT2, gT3, gT4, gT5, gT6, gT7, wYes, gAdd, DV.gSub, gMul, gMod, gDiv, gPow, gLt, gLe, gGt, gGe, gCmp, gEq, gNe, gIs, gIsN, DV.isNon, gIn, gNotIn, gIx, gSlc, wSlc, wNoP, wPart, gLen, gAbs, gInt, gMin2, gMax2, gAll, gAny, gSum, gTuple, wNeg, wRev, itemsOf, D.isTy, D.isHand, Sl.toD, big_0, big_1, big_2, big_3, big_4, big_5, big_6, big_7, big_8, big_9, big_10, big_11, big_12, draw_iff, own_ex, val_ex, wipeE, restE, Sl.keep, Option.getD_some, get_z, get_s, set_z, set_s, List.length_cons, List.length_nil, atI_0, atI_1, atI_2, atI_3, atI_4, ixN_5_0, ixN_5_1, ixN_5_2, ixN_5_3, ixN_5_4, D.bl.injEq, D.int.injEq, D.lst.injEq, D.tup.injEq, D.str.injEq, Sl.own.injEq, Sl.val.injEq, Option.some.injEq, exists_eq_left', exists_eq_left, exists_eq', exists_eq, or_true, true_or, or_false, false_or, CMul, CPow, natAbs_10, natAbs_2, Int.cast_ofNat_Int, Nat.reducePow, exists_and_left, exists_const, and_assoc, true_and, and_true, and_self, false_and, and_false, if_true, if_false, ite_true, ite_false, reduceCtorEq, decide_true, decide_false, decide_eq_true_eq, decide_eq_false_iff_not, Bool.not_true, Bool.not_false, Bool.false_eq_true, List.replicate_zero, List.replicate_succ, List.map_cons, List.map_nil, List.nil_append, List.cons_append, Nat.reduceSub, Nat.reduceAdd, Nat.reduceLeDiff, Nat.reduceLT, Int.reduceLT, Int.reduceLE, Int.reduceAdd, Int.reduceSub, Int.reduceMul, Int.reduceNeg, Int.reduceMod, Int.reduceDiv, Int.reducePow, Int.reduceToNat, okD_int, okD_bl, okD_lst, okD_tup, okD_non, okL_nil, okL_cons, okD_str, okL_int, eqD_int, eqD_bl, eqD_str, eqD_tup, eqD_lst, eqL_cons, eqL_nil, eqL_cn, eqL_nc, eqL_int, Bool.and_eq_true, Bool.or_eq_true, Bool.not_eq_true', Bool.and_false, Bool.false_and, Bool.or_false, Bool.false_or, Bool.or_true, Bool.true_or, Bool.and_true, Bool.true_and, Bool.and_self, wIsT2, wDct0, wLstOf, wRepF, wAsgH, DV.hN, hIx, hCons, hNil, hTup, wLM, gCnt, gIdx, gList, gSorted, wAppPop, wRaise0, wRaise1, wTry, wIsE, wAct, wFl, flD, okD_bl])
    rw [Nat.gcd_zero_right] at hg
    rw [hg]
    exact h
  · have hy2 : ¬ ((m : Int) = 0) := by omega
    simp only [wSeq, wAsg, wOwn, wF, wLc, wSkip, wBrk, wCnt, wRet, wRetF, wRetN, wDrop, wIfS, wPar, wFor, wWh, wV, wApp, wExt, wSetIx, wAug, wVal, wLook, wC, wOp, wTst, wChain, wAnd, wOr, wNot, wAndV, wOrV, wNotV, wIf, wNil, wCons, wTup, wLst, wCall, wCB, wIsT, wiR1, wiR2, wiSq, wiEn, wiZip, gN, gT1, gT2, gT3, gT4, gT5, gT6, gT7, wYes, gAdd, DV.gSub, gMul, gMod, gDiv, gPow, gLt, gLe, gGt, gGe, gCmp, gEq, gNe, gIs, gIsN, DV.isNon, gIn, gNotIn, gIx, gSlc, wSlc, wNoP, wPart, gLen, gAbs, gInt, gMin2, gMax2, gAll, gAny, gSum, gTuple, wNeg, wRev, itemsOf, D.isTy, D.isHand, Sl.toD, big_0, big_1, big_2, big_3, big_4, big_5, big_6, big_7, big_8, big_9, big_10, big_11, big_12, draw_iff, own_ex, val_ex, wipeE, restE, Sl.keep, Option.getD_some, get_z, get_s, set_z, set_s, List.length_cons, List.length_nil, atI_0, atI_1, atI_2, atI_3, atI_4, ixN_5_0, ixN_5_1, ixN_5_2, ixN_5_3, ixN_5_4, D.bl.injEq, D.int.injEq, D.lst.injEq, D.tup.injEq, D.str.injEq, Sl.own.injEq, Sl.val.injEq, Option.some.injEq, exists_eq_left', exists_eq_left, exists_eq', exists_eq, or_true, true_or, or_false, false_or, CMul, CPow, natAbs_10, natAbs_2, Int.cast_ofNat_Int, Nat.reducePow, exists_and_left, exists_const, and_assoc, true_and, and_true, and_self, false_and, and_false, if_true, if_false, ite_true, ite_false, reduceCtorEq, decide_true, decide_false, decide_eq_true_eq, decide_eq_false_iff_not, Bool.not_true, Bool.not_false, Bool.false_eq_true, List.replicate_zero, List.replicate_succ, List.map_cons, List.map_nil, List.nil_append, List.cons_append, Nat.reduceSub, Nat.reduceAdd, Nat.reduceLeDiff, Nat.reduceLT, Int.reduceLT, Int.reduceLE, Int.reduceAdd, Int.reduceSub, Int.reduceMul, Int.reduceNeg, Int.reduceMod, Int.reduceDiv, Int.reducePow, Int.reduceToNat, okD_int, okD_bl, okD_lst, okD_tup, okD_non, okL_nil, okL_cons, okD_str, okL_int, eqD_int, eqD_bl, eqD_str, eqD_tup, eqD_lst, eqL_cons, eqL_nil, eqL_cn, eqL_nc, eqL_int, Bool.and_eq_true, Bool.or_eq_true, Bool.not_eq_true', Bool.and_false, Bool.false_and, Bool.or_false, Bool.false_or, Bool.or_true, Bool.true_or, Bool.and_true, Bool.true_and, Bool.and_self, wIsT2, wDct0, wLstOf, wRepF, wAsgH, DV.hN, hIx, hCons, hNil, hTup, wLM, gCnt, gIdx, gList, gSorted, wAppPop, wRaise0, wRaise1, wTry, wIsE, wAct, wFl, flD, okD_bl, hy2]
    refine ⟨by omega, hn (x % m) _ (Nat.mod_lt _ (by omega)) ⟨m, x % m, rfl, ?_, by rw [Int.natCast_emod]⟩⟩
    rw [← hg, Nat.gcd_comm x m, Nat.gcd_comm m (x % m)]
    exact (Nat.gcd_rec m x).symm
theorem sp_law_weights {m : Int} (m1 : 2 ≤ m) (m2 : m ≤ 200) (h : ∀ ws, ws.length ≤ 4 → Ws m ws → Q (.tup (ws.map D.int))) : T__law_weights [.hand, .int m] Q E := by
  unfold T__law_weights wFn B__law_weights
  (try simp only [wSeq, wAsg, wOwn, wF, wLc, wSkip, wBrk, wCnt, wRet, wRetF, wRetN, wDrop, wIfS, wPar, wFor, wWh, wV, wApp, wExt, wSetIx, wAug, wVal, wLook, wC, wOp, wTst, wChain, wAnd, wOr, wNot, wAndV, wOrV, wNotV, wIf, wNil, wCons, wTup, wLst, wCall, wCB, wIsT, wiR1, wiR2, wiSq, wiEn, wiZip, gN, gT1, gT2, gT3, gT4, gT5, gT6, gT7, wYes, gAdd, DV.gSub, gMul, gMod, gDiv, gPow, gLt, gLe, gGt, gGe, gCmp, gEq, gNe, gIs, gIsN, DV.isNon, gIn, gNotIn, gIx, gSlc, wSlc, wNoP, wPart, gLen, gAbs, gInt, gMin2, gMax2, gAll, gAny, gSum, gTuple, wNeg, wRev, itemsOf, D.isTy, D.isHand, Sl.toD, big_0, big_1, big_2, big_3, big_4, big_5, big_6, big_7, big_8, big_9, big_10, big_11, big_12, draw_iff, own_ex, val_ex, wipeE, restE, Sl.keep, Option.getD_some, get_z, get_s, set_z, set_s, List.length_cons, List.length_nil, atI_0, atI_1, atI_2, atI_3, atI_4, ixN_5_0, ixN_5_1, ixN_5_2, ixN_5_3, ixN_5_4, D.bl.injEq, D.int.injEq, D.lst.injEq, D.tup.injEq, D.str.injEq, Sl.own.injEq, Sl.val.injEq, Option.some.injEq, exists_eq_left', exists_eq_left, exists_eq', exists_eq, or_true, true_or, or_false, false_or, CMul, CPow, natAbs_10, natAbs_2, Int.cast_ofNat_Int, Nat.reducePow, exists_and_left, exists_const, and_assoc, true_and, and_true, and_self, false_and, and_false, if_true, if_false, ite_true, ite_false, reduceCtorEq, decide_true, decide_false, decide_eq_true_eq, decide_eq_false_iff_not, Bool.not_true, Bool.not_false, Bool.false_eq_true, List.replicate_zero, List.replicate_succ, List.map_cons, List.map_nil, List.nil_append, List.cons_append, Nat.reduceSub, Nat.reduceAdd, Nat.reduceLeDiff, Nat.reduceLT, Int.reduceLT, Int.reduceLE, Int.reduceAdd, Int.reduceSub, Int.reduceMul, Int.reduceNeg, Int.reduceMod, Int.reduceDiv, Int.reducePow, Int.reduceToNat, okD_int, okD_bl, okD_lst, okD_tup, okD_non, okL_nil, okL_cons, okD_str, okL_int, eqD_int, eqD_bl, eqD_str, eqD_tup, eqD_lst, eqL_cons, eqL_nil, eqL_cn, eqL_nc, eqL_int, Bool.and_eq_true, Bool.or_eq_true, Bool.not_eq_true', Bool.and_false, Bool.false_and, Bool.or_false, Bool.false_or, Bool.or_true, Bool.true_or, Bool.and_true, Bool.true_and, Bool.and_self, wIsT2, wDct0, wLstOf, wRepF, wAsgH, DV.hN, hIx, hCons, hNil, hTup, wLM, gCnt, gIdx, gList, gSorted, wAppPop, wRaise0, wRaise1, wTry, wIsE, wAct, wFl, flD, okD_bl])
  intro d d1 d2
  refine ⟨by omega, by omega, by rw [rangeD_len]; unfold big; omega, ?_⟩
  refine lc_ints (fun x => 0 ≤ x ∧ x < m) (fun x hx K' hk => ?_) fun ws hl hws _ => ?_
  · (try simp only [wSeq, wAsg, wOwn, wF, wLc, wSkip, wBrk, wCnt, wRet, wRetF, wRetN, wDrop, wIfS, wPar, wFor, wWh, wV, wApp, wExt, wSetIx, wAug, wVal, wLook, wC, wOp, wTst, wChain, wAnd, wOr, wNot, wAndV, wOrV, wNotV, wIf, wNil, wCons, wTup, wLst, wCall, wCB, wIsT, wiR1, wiR2, wiSq, wiEn, wiZip, gN, gT1, gT2, gT3, gT4, gT5, gT6, gT7, wYes, gAdd, DV.gSub, gMul, gMod, gDiv, gPow, gLt, gLe, gGt, gGe, gCmp, gEq, gNe, gIs, gIsN, DV.isNon, gIn, gNotIn, gIx, gSlc, wSlc, wNoP, wPart, gLen, gAbs, gInt, gMin2, gMax2, gAll, gAny, gSum, gTuple, wNeg, wRev, itemsOf, D.isTy, D.isHand, Sl.toD, big_0, big_1, big_2, big_3, big_4, big_5, big_6, big_7, big_8, big_9, big_10, big_11, big_12, draw_iff, own_ex, val_ex, wipeE, restE, Sl.keep, Option.getD_some, get_z, get_s, set_z, set_s, List.length_cons, List.length_nil, atI_0, atI_1, atI_2, atI_3, atI_4, ixN_5_0, ixN_5_1, ixN_5_2, ixN_5_3, ixN_5_4, D.bl.injEq, D.int.injEq, D.lst.injEq, D.tup.injEq, D.str.injEq, Sl.own.injEq, Sl.val.injEq, Option.some.injEq, exists_eq_left', exists_eq_left, exists_eq', exists_eq, or_true, true_or, or_false, false_or, CMul, CPow, natAbs_10, natAbs_2, Int.cast_ofNat_Int, Nat.reducePow, exists_and_left, exists_const, and_assoc, true_and, and_true, and_self, false_and, and_false, if_true, if_false, ite_true, ite_false, reduceCtorEq, decide_true, decide_false, decide_eq_true_eq, decide_eq_false_iff_not, Bool.not_true, Bool.not_false, Bool.false_eq_true, List.replicate_zero, List.replicate_succ, List.map_cons, List.map_nil, List.nil_append, List.cons_append, Nat.reduceSub, Nat.reduceAdd, Nat.reduceLeDiff, Nat.reduceLT, Int.reduceLT, Int.reduceLE, Int.reduceAdd, Int.reduceSub, Int.reduceMul, Int.reduceNeg, Int.reduceMod, Int.reduceDiv, Int.reducePow, Int.reduceToNat, okD_int, okD_bl, okD_lst, okD_tup, okD_non, okL_nil, okL_cons, okD_str, okL_int, eqD_int, eqD_bl, eqD_str, eqD_tup, eqD_lst, eqL_cons, eqL_nil, eqL_cn, eqL_nc, eqL_int, Bool.and_eq_true, Bool.or_eq_true, Bool.not_eq_true', Bool.and_false, Bool.false_and, Bool.or_false, Bool.false_or, Bool.or_true, Bool.true_or, Bool.and_true, Bool.true_and, Bool.and_self, wIsT2, wDct0, wLstOf, wRepF, wAsgH, DV.hN, hIx, hCons, hNil, hTup, wLM, gCnt, gIdx, gList, gSorted, wAppPop, wRaise0, wRaise1, wTry, wIsE, wAct, wFl, flD, okD_bl])
    exact ⟨by omega, by omega, fun d d1 d2 => hk d ⟨d1, d2⟩⟩
  rw [rangeD_len] at hl
  (try simp only [wSeq, wAsg, wOwn, wF, wLc, wSkip, wBrk, wCnt, wRet, wRetF, wRetN, wDrop, wIfS, wPar, wFor, wWh, wV, wApp, wExt, wSetIx, wAug, wVal, wLook, wC, wOp, wTst, wChain, wAnd, wOr, wNot, wAndV, wOrV, wNotV, wIf, wNil, wCons, wTup, wLst, wCall, wCB, wIsT, wiR1, wiR2, wiSq, wiEn, wiZip, gN, gT1, gT2, gT3, gT4, gT5, gT6, gT7, wYes, gAdd, DV.gSub, gMul, gMod, gDiv, gPow, gLt, gLe, gGt, gGe, gCmp, gEq, gNe, gIs, gIsN, DV.isNon, gIn, gNotIn, gIx, gSlc, wSlc, wNoP, wPart, gLen, gAbs, gInt, gMin2, gMax2, gAll, gAny, gSum, gTuple, wNeg, wRev, itemsOf, D.isTy, D.isHand, Sl.toD, big_0, big_1, big_2, big_3, big_4, big_5, big_6, big_7, big_8, big_9, big_10, big_11, big_12, draw_iff, own_ex, val_ex, wipeE, restE, Sl.keep, Option.getD_some, get_z, get_s, set_z, set_s, List.length_cons, List.length_nil, atI_0, atI_1, atI_2, atI_3, atI_4, ixN_5_0, ixN_5_1, ixN_5_2, ixN_5_3, ixN_5_4, D.bl.injEq, D.int.injEq, D.lst.injEq, D.tup.injEq, D.str.injEq, Sl.own.injEq, Sl.val.injEq, Option.some.injEq, exists_eq_left', exists_eq_left, exists_eq', exists_eq, or_true, true_or, or_false, false_or, CMul, CPow, natAbs_10, natAbs_2, Int.cast_ofNat_Int, Nat.reducePow, exists_and_left, exists_const, and_assoc, true_and, and_true, and_self, false_and, and_false, if_true, if_false, ite_true, ite_false, reduceCtorEq, decide_true, decide_false, decide_eq_true_eq, decide_eq_false_iff_not, Bool.not_true, Bool.not_false, Bool.false_eq_true, List.replicate_zero, List.replicate_succ, List.map_cons, List.map_nil, List.nil_append, List.cons_append, Nat.reduceSub, Nat.reduceAdd, Nat.reduceLeDiff, Nat.reduceLT, Int.reduceLT, Int.reduceLE, Int.reduceAdd, Int.reduceSub, Int.reduceMul, Int.reduceNeg, Int.reduceMod, Int.reduceDiv, Int.reducePow, Int.reduceToNat, okD_int, okD_bl, okD_lst, okD_tup, okD_non, okL_nil, okL_cons, okD_str, okL_int, eqD_int, eqD_bl, eqD_str, eqD_tup, eqD_lst, eqL_cons, eqL_nil, eqL_cn, eqL_nc, eqL_int, Bool.and_eq_true, Bool.or_eq_true, Bool.not_eq_true', Bool.and_false, Bool.false_and, Bool.or_false, Bool.false_or, Bool.or_true, Bool.true_or, Bool.and_true, Bool.true_and, Bool.and_self, wIsT2, wDct0, wLstOf, wRepF, wAsgH, DV.hN, hIx, hCons, hNil, hTup, wLM, gCnt, gIdx, gList, gSorted, wAppPop, wRaise0, wRaise1, wTry, wIsE, wAct, wFl, flD, okD_bl])
  exact h ws (by omega) ⟨by omega, by omega, hws⟩
/-! ### the word of an error -/
theorem nm1 : (["NoNumber"] : List Str).contains "NoNumber" = true := by decide +kernel
theorem nm2 : (["NoWeights"] : List Str).contains "NoNumber" = false := by decide +kernel
theorem nm3 : (["NoNumber"] : List Str).contains "NoWeights" = false := by decide +kernel
theorem nm4 : (["NoWeights"] : List Str).contains "NoWeights" = true := by decide +kernel
theorem sp_word_n {tD : Tl} (h : ∀ Q' E', E' ("NoNumber", []) → tD Q' E') (hq : Q (.str "number")) : F__law_word tD Q := by
  unfold F__law_word wFl
  intro f
  unfold B__law_word
  (try simp only [wSeq, wAsg, wOwn, wF, wLc, wSkip, wBrk, wCnt, wRet, wRetF, wRetN, wDrop, wIfS, wPar, wFor, wWh, wV, wApp, wExt, wSetIx, wAug, wVal, wLook, wC, wOp, wTst, wChain, wAnd, wOr, wNot, wAndV, wOrV, wNotV, wIf, wNil, wCons, wTup, wLst, wCall, wCB, wIsT, wiR1, wiR2, wiSq, wiEn, wiZip, gN, gT1, gT2, gT3, gT4, gT5, gT6, gT7, wYes, gAdd, DV.gSub, gMul, gMod, gDiv, gPow, gLt, gLe, gGt, gGe, gCmp, gEq, gNe, gIs, gIsN, DV.isNon, gIn, gNotIn, gIx, gSlc, wSlc, wNoP, wPart, gLen, gAbs, gInt, gMin2, gMax2, gAll, gAny, gSum, gTuple, wNeg, wRev, itemsOf, D.isTy, D.isHand, Sl.toD, big_0, big_1, big_2, big_3, big_4, big_5, big_6, big_7, big_8, big_9, big_10, big_11, big_12, draw_iff, own_ex, val_ex, wipeE, restE, Sl.keep, Option.getD_some, get_z, get_s, set_z, set_s, List.length_cons, List.length_nil, atI_0, atI_1, atI_2, atI_3, atI_4, ixN_5_0, ixN_5_1, ixN_5_2, ixN_5_3, ixN_5_4, D.bl.injEq, D.int.injEq, D.lst.injEq, D.tup.injEq, D.str.injEq, Sl.own.injEq, Sl.val.injEq, Option.some.injEq, exists_eq_left', exists_eq_left, exists_eq', exists_eq, or_true, true_or, or_false, false_or, CMul, CPow, natAbs_10, natAbs_2, Int.cast_ofNat_Int, Nat.reducePow, exists_and_left, exists_const, and_assoc, true_and, and_true, and_self, false_and, and_false, if_true, if_false, ite_true, ite_false, reduceCtorEq, decide_true, decide_false, decide_eq_true_eq, decide_eq_false_iff_not, Bool.not_true, Bool.not_false, Bool.false_eq_true, List.replicate_zero, List.replicate_succ, List.map_cons, List.map_nil, List.nil_append, List.cons_append, Nat.reduceSub, Nat.reduceAdd, Nat.reduceLeDiff, Nat.reduceLT, Int.reduceLT, Int.reduceLE, Int.reduceAdd, Int.reduceSub, Int.reduceMul, Int.reduceNeg, Int.reduceMod, Int.reduceDiv, Int.reducePow, Int.reduceToNat, okD_int, okD_bl, okD_lst, okD_tup, okD_non, okL_nil, okL_cons, okD_str, okL_int, eqD_int, eqD_bl, eqD_str, eqD_tup, eqD_lst, eqL_cons, eqL_nil, eqL_cn, eqL_nc, eqL_int, Bool.and_eq_true, Bool.or_eq_true, Bool.not_eq_true', Bool.and_false, Bool.false_and, Bool.or_false, Bool.false_or, Bool.or_true, Bool.true_or, Bool.and_true, Bool.true_and, Bool.and_self, wIsT2, wDct0, wLstOf, wRepF, wAsgH, DV.hN, hIx, hCons, hNil, hTup, wLM, gCnt, gIdx, gList, gSorted, wAppPop, wRaise0, wRaise1, wTry, wIsE, wAct, wFl, flD, okD_bl])
  unfold B__law_word_2
  (try simp only [wSeq, wAsg, wOwn, wF, wLc, wSkip, wBrk, wCnt, wRet, wRetF, wRetN, wDrop, wIfS, wPar, wFor, wWh, wV, wApp, wExt, wSetIx, wAug, wVal, wLook, wC, wOp, wTst, wChain, wAnd, wOr, wNot, wAndV, wOrV, wNotV, wIf, wNil, wCons, wTup, wLst, wCall, wCB, wIsT, wiR1, wiR2, wiSq, wiEn, wiZip, gN, gT1, gT2, gT3, gT4, gT5, gT6, gT7, wYes, gAdd, DV.gSub, gMul, gMod, gDiv, gPow, gLt, gLe, gGt, gGe, gCmp, gEq, gNe, gIs, gIsN, DV.isNon, gIn, gNotIn, gIx, gSlc, wSlc, wNoP, wPart, gLen, gAbs, gInt, gMin2, gMax2, gAll, gAny, gSum, gTuple, wNeg, wRev, itemsOf, D.isTy, D.isHand, Sl.toD, big_0, big_1, big_2, big_3, big_4, big_5, big_6, big_7, big_8, big_9, big_10, big_11, big_12, draw_iff, own_ex, val_ex, wipeE, restE, Sl.keep, Option.getD_some, get_z, get_s, set_z, set_s, List.length_cons, List.length_nil, atI_0, atI_1, atI_2, atI_3, atI_4, ixN_5_0, ixN_5_1, ixN_5_2, ixN_5_3, ixN_5_4, D.bl.injEq, D.int.injEq, D.lst.injEq, D.tup.injEq, D.str.injEq, Sl.own.injEq, Sl.val.injEq, Option.some.injEq, exists_eq_left', exists_eq_left, exists_eq', exists_eq, or_true, true_or, or_false, false_or, CMul, CPow, natAbs_10, natAbs_2, Int.cast_ofNat_Int, Nat.reducePow, exists_and_left, exists_const, and_assoc, true_and, and_true, and_self, false_and, and_false, if_true, if_false, ite_true, ite_false, reduceCtorEq, decide_true, decide_false, decide_eq_true_eq, decide_eq_false_iff_not, Bool.not_true, Bool.not_false, Bool.false_eq_true, List.replicate_zero, List.replicate_succ, List.map_cons, List.map_nil, List.nil_append, List.cons_append, Nat.reduceSub, Nat.reduceAdd, Nat.reduceLeDiff, Nat.reduceLT, Int.reduceLT, Int.reduceLE, Int.reduceAdd, Int.reduceSub, Int.reduceMul, Int.reduceNeg, Int.reduceMod, Int.reduceDiv, Int.reducePow, Int.reduceToNat, okD_int, okD_bl, okD_lst, okD_tup, okD_non, okL_nil, okL_cons, okD_str, okL_int, eqD_int, eqD_bl, eqD_str, eqD_tup, eqD_lst, eqL_cons, eqL_nil, eqL_cn, eqL_nc, eqL_int, Bool.and_eq_true, Bool.or_eq_true, Bool.not_eq_true', Bool.and_false, Bool.false_and, Bool.or_false, Bool.false_or, Bool.or_true, Bool.true_or, Bool.and_true, Bool.true_and, Bool.and_self, wIsT2, wDct0, wLstOf, wRepF, wAsgH, DV.hN, hIx, hCons, hNil, hTup, wLM, gCnt, gIdx, gList, gSorted, wAppPop, wRaise0, wRaise1, wTry, wIsE, wAct, wFl, flD, okD_bl])
  refine h _ _ fun a dd => ?_
  unfold B__law_word_5
  simp only [wSeq, wAsg, wOwn, wF, wLc, wSkip, wBrk, wCnt, wRet, wRetF, wRetN, wDrop, wIfS, wPar, wFor, wWh, wV, wApp, wExt, wSetIx, wAug, wVal, wLook, wC, wOp, wTst, wChain, wAnd, wOr, wNot, wAndV, wOrV, wNotV, wIf, wNil, wCons, wTup, wLst, wCall, wCB, wIsT, wiR1, wiR2, wiSq, wiEn, wiZip, gN, gT1, gT2, gT3, gT4, gT5, gT6, gT7, wYes, gAdd, DV.gSub, gMul, gMod, gDiv, gPow, gLt, gLe, gGt, gGe, gCmp, gEq, gNe, gIs, gIsN, DV.isNon, gIn, gNotIn, gIx, gSlc, wSlc, wNoP, wPart, gLen, gAbs, gInt, gMin2, gMax2, gAll, gAny, gSum, gTuple, wNeg, wRev, itemsOf, D.isTy, D.isHand, Sl.toD, big_0, big_1, big_2, big_3, big_4, big_5, big_6, big_7, big_8, big_9, big_10, big_11, big_12, draw_iff, own_ex, val_ex, wipeE, restE, Sl.keep, Option.getD_some, get_z, get_s, set_z, set_s, List.length_cons, List.length_nil, atI_0, atI_1, atI_2, atI_3, atI_4, ixN_5_0, ixN_5_1, ixN_5_2, ixN_5_3, ixN_5_4, D.bl.injEq, D.int.injEq, D.lst.injEq, D.tup.injEq, D.str.injEq, Sl.own.injEq, Sl.val.injEq, Option.some.injEq, exists_eq_left', exists_eq_left, exists_eq', exists_eq, or_true, true_or, or_false, false_or, CMul, CPow, natAbs_10, natAbs_2, Int.cast_ofNat_Int, Nat.reducePow, exists_and_left, exists_const, and_assoc, true_and, and_true, and_self, false_and, and_false, if_true, if_false, ite_true, ite_false, reduceCtorEq, decide_true, decide_false, decide_eq_true_eq, decide_eq_false_iff_not, Bool.not_true, Bool.not_false, Bool.false_eq_true, List.replicate_zero, List.replicate_succ, List.map_cons, List.map_nil, List.nil_append, List.cons_append, Nat.reduceSub, Nat.reduceAdd, Nat.reduceLeDiff, Nat.reduceLT, Int.reduceLT, Int.reduceLE, Int.reduceAdd, Int.reduceSub, Int.reduceMul, Int.reduceNeg, Int.reduceMod, Int.reduceDiv, Int.reducePow, Int.reduceToNat, okD_int, okD_bl, okD_lst, okD_tup, okD_non, okL_nil, okL_cons, okD_str, okL_int, eqD_int, eqD_bl, eqD_str, eqD_tup, eqD_lst, eqL_cons, eqL_nil, eqL_cn, eqL_nc, eqL_int, Bool.and_eq_true, Bool.or_eq_true, Bool.not_eq_true', Bool.and_false, Bool.false_and, Bool.or_false, Bool.false_or, Bool.or_true, Bool.true_or, Bool.and_true, Bool.true_and, Bool.and_self, wIsT2, wDct0, wLstOf, wRepF, wAsgH, DV.hN, hIx, hCons, hNil, hTup, wLM, gCnt, gIdx, gList, gSorted, wAppPop, wRaise0, wRaise1, wTry, wIsE, wAct, wFl, flD, okD_bl, nm1, nm2]
  unfold B__law_word_6
  (try simp only [wSeq, wAsg, wOwn, wF, wLc, wSkip, wBrk, wCnt, wRet, wRetF, wRetN, wDrop, wIfS, wPar, wFor, wWh, wV, wApp, wExt, wSetIx, wAug, wVal, wLook, wC, wOp, wTst, wChain, wAnd, wOr, wNot, wAndV, wOrV, wNotV, wIf, wNil, wCons, wTup, wLst, wCall, wCB, wIsT, wiR1, wiR2, wiSq, wiEn, wiZip, gN, gT1, gT2, gT3, gT4, gT5, gT6, gT7, wYes, gAdd, DV.gSub, gMul, gMod, gDiv, gPow, gLt, gLe, gGt, gGe, gCmp, gEq, gNe, gIs, gIsN, DV.isNon, gIn, gNotIn, gIx, gSlc, wSlc, wNoP, wPart, gLen, gAbs, gInt, gMin2, gMax2, gAll, gAny, gSum, gTuple, wNeg, wRev, itemsOf, D.isTy, D.isHand, Sl.toD, big_0, big_1, big_2, big_3, big_4, big_5, big_6, big_7, big_8, big_9, big_10, big_11, big_12, draw_iff, own_ex, val_ex, wipeE, restE, Sl.keep, Option.getD_some, get_z, get_s, set_z, set_s, List.length_cons, List.length_nil, atI_0, atI_1, atI_2, atI_3, atI_4, ixN_5_0, ixN_5_1, ixN_5_2, ixN_5_3, ixN_5_4, D.bl.injEq, D.int.injEq, D.lst.injEq, D.tup.injEq, D.str.injEq, Sl.own.injEq, Sl.val.injEq, Option.some.injEq, exists_eq_left', exists_eq_left, exists_eq', exists_eq, or_true, true_or, or_false, false_or, CMul, CPow, natAbs_10, natAbs_2, Int.cast_ofNat_Int, Nat.reducePow, exists_and_left, exists_const, and_assoc, true_and, and_true, and_self, false_and, and_false, if_true, if_false, ite_true, ite_false, reduceCtorEq, decide_true, decide_false, decide_eq_true_eq, decide_eq_false_iff_not, Bool.not_true, Bool.not_false, Bool.false_eq_true, List.replicate_zero, List.replicate_succ, List.map_cons, List.map_nil, List.nil_append, List.cons_append, Nat.reduceSub, Nat.reduceAdd, Nat.reduceLeDiff, Nat.reduceLT, Int.reduceLT, Int.reduceLE, Int.reduceAdd, Int.reduceSub, Int.reduceMul, Int.reduceNeg, Int.reduceMod, Int.reduceDiv, Int.reducePow, Int.reduceToNat, okD_int, okD_bl, okD_lst, okD_tup, okD_non, okL_nil, okL_cons, okD_str, okL_int, eqD_int, eqD_bl, eqD_str, eqD_tup, eqD_lst, eqL_cons, eqL_nil, eqL_cn, eqL_nc, eqL_int, Bool.and_eq_true, Bool.or_eq_true, Bool.not_eq_true', Bool.and_false, Bool.false_and, Bool.or_false, Bool.false_or, Bool.or_true, Bool.true_or, Bool.and_true, Bool.true_and, Bool.and_self, wIsT2, wDct0, wLstOf, wRepF, wAsgH, DV.hN, hIx, hCons, hNil, hTup, wLM, gCnt, gIdx, gList, gSorted, wAppPop, wRaise0, wRaise1, wTry, wIsE, wAct, wFl, flD, okD_bl])
  unfold B__law_word_7
  simp only [wSeq, wAsg, wOwn, wF, wLc, wSkip, wBrk, wCnt, wRet, wRetF, wRetN, wDrop, wIfS, wPar, wFor, wWh, wV, wApp, wExt, wSetIx, wAug, wVal, wLook, wC, wOp, wTst, wChain, wAnd, wOr, wNot, wAndV, wOrV, wNotV, wIf, wNil, wCons, wTup, wLst, wCall, wCB, wIsT, wiR1, wiR2, wiSq, wiEn, wiZip, gN, gT1, gT2, gT3, gT4, gT5, gT6, gT7, wYes, gAdd, DV.gSub, gMul, gMod, gDiv, gPow, gLt, gLe, gGt, gGe, gCmp, gEq, gNe, gIs, gIsN, DV.isNon, gIn, gNotIn, gIx, gSlc, wSlc, wNoP, wPart, gLen, gAbs, gInt, gMin2, gMax2, gAll, gAny, gSum, gTuple, wNeg, wRev, itemsOf, D.isTy, D.isHand, Sl.toD, big_0, big_1, big_2, big_3, big_4, big_5, big_6, big_7, big_8, big_9, big_10, big_11, big_12, draw_iff, own_ex, val_ex, wipeE, restE, Sl.keep, Option.getD_some, get_z, get_s, set_z, set_s, List.length_cons, List.length_nil, atI_0, atI_1, atI_2, atI_3, atI_4, ixN_5_0, ixN_5_1, ixN_5_2, ixN_5_3, ixN_5_4, D.bl.injEq, D.int.injEq, D.lst.injEq, D.tup.injEq, D.str.injEq, Sl.own.injEq, Sl.val.injEq, Option.some.injEq, exists_eq_left', exists_eq_left, exists_eq', exists_eq, or_true, true_or, or_false, false_or, CMul, CPow, natAbs_10, natAbs_2, Int.cast_ofNat_Int, Nat.reducePow, exists_and_left, exists_const, and_assoc, true_and, and_true, and_self, false_and, and_false, if_true, if_false, ite_true, ite_false, reduceCtorEq, decide_true, decide_false, decide_eq_true_eq, decide_eq_false_iff_not, Bool.not_true, Bool.not_false, Bool.false_eq_true, List.replicate_zero, List.replicate_succ, List.map_cons, List.map_nil, List.nil_append, List.cons_append, Nat.reduceSub, Nat.reduceAdd, Nat.reduceLeDiff, Nat.reduceLT, Int.reduceLT, Int.reduceLE, Int.reduceAdd, Int.reduceSub, Int.reduceMul, Int.reduceNeg, Int.reduceMod, Int.reduceDiv, Int.reducePow, Int.reduceToNat, okD_int, okD_bl, okD_lst, okD_tup, okD_non, okL_nil, okL_cons, okD_str, okL_int, eqD_int, eqD_bl, eqD_str, eqD_tup, eqD_lst, eqL_cons, eqL_nil, eqL_cn, eqL_nc, eqL_int, Bool.and_eq_true, Bool.or_eq_true, Bool.not_eq_true', Bool.and_false, Bool.false_and, Bool.or_false, Bool.false_or, Bool.or_true, Bool.true_or, Bool.and_true, Bool.true_and, Bool.and_self, wIsT2, wDct0, wLstOf, wRepF, wAsgH, DV.hN, hIx, hCons, hNil, hTup, wLM, gCnt, gIdx, gList, gSorted, wAppPop, wRaise0, wRaise1, wTry, wIsE, wAct, wFl, flD, okD_bl, eqD_bl, List.all_cons, List.all_nil, List.countP_cons, List.countP_nil, List.findIdx?_cons]
  unfold B__law_word_8
  simp only [wSeq, wAsg, wOwn, wF, wLc, wSkip, wBrk, wCnt, wRet, wRetF, wRetN, wDrop, wIfS, wPar, wFor, wWh, wV, wApp, wExt, wSetIx, wAug, wVal, wLook, wC, wOp, wTst, wChain, wAnd, wOr, wNot, wAndV, wOrV, wNotV, wIf, wNil, wCons, wTup, wLst, wCall, wCB, wIsT, wiR1, wiR2, wiSq, wiEn, wiZip, gN, gT1, gT2, gT3, gT4, gT5, gT6, gT7, wYes, gAdd, DV.gSub, gMul, gMod, gDiv, gPow, gLt, gLe, gGt, gGe, gCmp, gEq, gNe, gIs, gIsN, DV.isNon, gIn, gNotIn, gIx, gSlc, wSlc, wNoP, wPart, gLen, gAbs, gInt, gMin2, gMax2, gAll, gAny, gSum, gTuple, wNeg, wRev, itemsOf, D.isTy, D.isHand, Sl.toD, big_0, big_1, big_2, big_3, big_4, big_5, big_6, big_7, big_8, big_9, big_10, big_11, big_12, draw_iff, own_ex, val_ex, wipeE, restE, Sl.keep, Option.getD_some, get_z, get_s, set_z, set_s, List.length_cons, List.length_nil, atI_0, atI_1, atI_2, atI_3, atI_4, ixN_5_0, ixN_5_1, ixN_5_2, ixN_5_3, ixN_5_4, D.bl.injEq, D.int.injEq, D.lst.injEq, D.tup.injEq, D.str.injEq, Sl.own.injEq, Sl.val.injEq, Option.some.injEq, exists_eq_left', exists_eq_left, exists_eq', exists_eq, or_true, true_or, or_false, false_or, CMul, CPow, natAbs_10, natAbs_2, Int.cast_ofNat_Int, Nat.reducePow, exists_and_left, exists_const, and_assoc, true_and, and_true, and_self, false_and, and_false, if_true, if_false, ite_true, ite_false, reduceCtorEq, decide_true, decide_false, decide_eq_true_eq, decide_eq_false_iff_not, Bool.not_true, Bool.not_false, Bool.false_eq_true, List.replicate_zero, List.replicate_succ, List.map_cons, List.map_nil, List.nil_append, List.cons_append, Nat.reduceSub, Nat.reduceAdd, Nat.reduceLeDiff, Nat.reduceLT, Int.reduceLT, Int.reduceLE, Int.reduceAdd, Int.reduceSub, Int.reduceMul, Int.reduceNeg, Int.reduceMod, Int.reduceDiv, Int.reducePow, Int.reduceToNat, okD_int, okD_bl, okD_lst, okD_tup, okD_non, okL_nil, okL_cons, okD_str, okL_int, eqD_int, eqD_bl, eqD_str, eqD_tup, eqD_lst, eqL_cons, eqL_nil, eqL_cn, eqL_nc, eqL_int, Bool.and_eq_true, Bool.or_eq_true, Bool.not_eq_true', Bool.and_false, Bool.false_and, Bool.or_false, Bool.false_or, Bool.or_true, Bool.true_or, Bool.and_true, Bool.true_and, Bool.and_self, wIsT2, wDct0, wLstOf, wRepF, wAsgH, DV.hN, hIx, hCons, hNil, hTup, wLM, gCnt, gIdx, gList, gSorted, wAppPop, wRaise0, wRaise1, wTry, wIsE, wAct, wFl, flD, okD_bl, eqD_bl, List.all_cons, List.all_nil, List.findIdx?_cons]
  unfold B__law_word_9
  (try simp only [wSeq, wAsg, wOwn, wF, wLc, wSkip, wBrk, wCnt, wRet, wRetF, wRetN, wDrop, wIfS, wPar, wFor, wWh, wV, wApp, wExt, wSetIx, wAug, wVal, wLook, wC, wOp, wTst, wChain, wAnd, wOr, wNot, wAndV, wOrV, wNotV, wIf, wNil, wCons, wTup, wLst, wCall, wCB, wIsT, wiR1, wiR2, wiSq, wiEn, wiZip, gN, gT1, gT2, gT3, gT4, gT5, gT6, gT7, wYes, gAdd, DV.gSub, gMul, gMod, gDiv, gPow, gLt, gLe, gGt, gGe, gCmp, gEq, gNe, gIs, gIsN, DV.isNon, gIn, gNotIn, gIx, gSlc, wSlc, wNoP, wPart, gLen, gAbs, gInt, gMin2, gMax2, gAll, gAny, gSum, gTuple, wNeg, wRev, itemsOf, D.isTy, D.isHand, Sl.toD, big_0, big_1, big_2, big_3, big_4, big_5, big_6, big_7, big_8, big_9, big_10, big_11, big_12, draw_iff, own_ex, val_ex, wipeE, restE, Sl.keep, Option.getD_some, get_z, get_s, set_z, set_s, List.length_cons, List.length_nil, atI_0, atI_1, atI_2, atI_3, atI_4, ixN_5_0, ixN_5_1, ixN_5_2, ixN_5_3, ixN_5_4, D.bl.injEq, D.int.injEq, D.lst.injEq, D.tup.injEq, D.str.injEq, Sl.own.injEq, Sl.val.injEq, Option.some.injEq, exists_eq_left', exists_eq_left, exists_eq', exists_eq, or_true, true_or, or_false, false_or, CMul, CPow, natAbs_10, natAbs_2, Int.cast_ofNat_Int, Nat.reducePow, exists_and_left, exists_const, and_assoc, true_and, and_true, and_self, false_and, and_false, if_true, if_false, ite_true, ite_false, reduceCtorEq, decide_true, decide_false, decide_eq_true_eq, decide_eq_false_iff_not, Bool.not_true, Bool.not_false, Bool.false_eq_true, List.replicate_zero, List.replicate_succ, List.map_cons, List.map_nil, List.nil_append, List.cons_append, Nat.reduceSub, Nat.reduceAdd, Nat.reduceLeDiff, Nat.reduceLT, Int.reduceLT, Int.reduceLE, Int.reduceAdd, Int.reduceSub, Int.reduceMul, Int.reduceNeg, Int.reduceMod, Int.reduceDiv, Int.reducePow, Int.reduceToNat, okD_int, okD_bl, okD_lst, okD_tup, okD_non, okL_nil, okL_cons, okD_str, okL_int, eqD_int, eqD_bl, eqD_str, eqD_tup, eqD_lst, eqL_cons, eqL_nil, eqL_cn, eqL_nc, eqL_int, Bool.and_eq_true, Bool.or_eq_true, Bool.not_eq_true', Bool.and_false, Bool.false_and, Bool.or_false, Bool.false_or, Bool.or_true, Bool.true_or, Bool.and_true, Bool.true_and, Bool.and_self, wIsT2, wDct0, wLstOf, wRepF, wAsgH, DV.hN, hIx, hCons, hNil, hTup, wLM, gCnt, gIdx, gList, gSorted, wAppPop, wRaise0, wRaise1, wTry, wIsE, wAct, wFl, flD, okD_bl])
  exact fun _ _ => hq
theorem sp_word_w {tD : Tl} (h : ∀ Q' E', E' ("NoWeights", []) → tD Q' E') (hq : Q (.str "weights")) : F__law_word tD Q := by
  unfold F__law_word wFl
  intro f
  unfold B__law_word
  (try simp only [wSeq, wAsg, wOwn, wF, wLc, wSkip, wBrk, wCnt, wRet, wRetF, wRetN, wDrop, wIfS, wPar, wFor, wWh, wV, wApp, wExt, wSetIx, wAug, wVal, wLook, wC, wOp, wTst, wChain, wAnd, wOr, wNot, wAndV, wOrV, wNotV, wIf, wNil, wCons, wTup, wLst, wCall, wCB, wIsT, wiR1, wiR2, wiSq, wiEn, wiZip, gN, gT1, gT2, gT3, gT4, gT5, gT6, gT7, wYes, gAdd, DV.gSub, gMul, gMod, gDiv, gPow, gLt, gLe, gGt, gGe, gCmp, gEq, gNe, gIs, gIsN, DV.isNon, gIn, gNotIn, gIx, gSlc, wSlc, wNoP, wPart, gLen, gAbs, gInt, gMin2, gMax2, gAll, gAny, gSum, gTuple, wNeg, wRev, itemsOf, D.isTy, D.isHand, Sl.toD, big_0, big_1, big_2, big_3, big_4, big_5, big_6, big_7, big_8, big_9, big_10, big_11, big_12, draw_iff, own_ex, val_ex, wipeE, restE, Sl.keep, Option.getD_some, get_z, get_s, set_z, set_s, List.length_cons, List.length_nil, atI_0, atI_1, atI_2, atI_3, atI_4, ixN_5_0, ixN_5_1, ixN_5_2, ixN_5_3, ixN_5_4, D.bl.injEq, D.int.injEq, D.lst.injEq, D.tup.injEq, D.str.injEq, Sl.own.injEq, Sl.val.injEq, Option.some.injEq, exists_eq_left', exists_eq_left, exists_eq', exists_eq, or_true, true_or, or_false, false_or, CMul, CPow, natAbs_10, natAbs_2, Int.cast_ofNat_Int, Nat.reducePow, exists_and_left, exists_const, and_assoc, true_and, and_true, and_self, false_and, and_false, if_true, if_false, ite_true, ite_false, reduceCtorEq, decide_true, decide_false, decide_eq_true_eq, decide_eq_false_iff_not, Bool.not_true, Bool.not_false, Bool.false_eq_true, List.replicate_zero, List.replicate_succ, List.map_cons, List.map_nil, List.nil_append, List.cons_append, Nat.reduceSub, Nat.reduceAdd, Nat.reduceLeDiff, Nat.reduceLT, Int.reduceLT, Int.reduceLE, Int.reduceAdd, Int.reduceSub, Int.reduceMul, Int.reduceNeg, Int.reduceMod, Int.reduceDiv, Int.reducePow, Int.reduceToNat, okD_int, okD_bl, okD_lst, okD_tup, okD_non, okL_nil, okL_cons, okD_str, okL_int, eqD_int, eqD_bl, eqD_str, eqD_tup, eqD_lst, eqL_cons, eqL_nil, eqL_cn, eqL_nc, eqL_int, Bool.and_eq_true, Bool.or_eq_true, Bool.not_eq_true', Bool.and_false, Bool.false_and, Bool.or_false, Bool.false_or, Bool.or_true, Bool.true_or, Bool.and_true, Bool.true_and, Bool.and_self, wIsT2, wDct0, wLstOf, wRepF, wAsgH, DV.hN, hIx, hCons, hNil, hTup, wLM, gCnt, gIdx, gList, gSorted, wAppPop, wRaise0, wRaise1, wTry, wIsE, wAct, wFl, flD, okD_bl])
  unfold B__law_word_2
  (try simp only [wSeq, wAsg, wOwn, wF, wLc, wSkip, wBrk, wCnt, wRet, wRetF, wRetN, wDrop, wIfS, wPar, wFor, wWh, wV, wApp, wExt, wSetIx, wAug, wVal, wLook, wC, wOp, wTst, wChain, wAnd, wOr, wNot, wAndV, wOrV, wNotV, wIf, wNil, wCons, wTup, wLst, wCall, wCB, wIsT, wiR1, wiR2, wiSq, wiEn, wiZip, gN, gT1, gT2, gT3, gT4, gT5, gT6, gT7, wYes, gAdd, DV.gSub, gMul, gMod, gDiv, gPow, gLt, gLe, gGt, gGe, gCmp, gEq, gNe, gIs, gIsN, DV.isNon, gIn, gNotIn, gIx, gSlc, wSlc, wNoP, wPart, gLen, gAbs, gInt, gMin2, gMax2, gAll, gAny, gSum, gTuple, wNeg, wRev, itemsOf, D.isTy, D.isHand, Sl.toD, big_0, big_1, big_2, big_3, big_4, big_5, big_6, big_7, big_8, big_9, big_10, big_11, big_12, draw_iff, own_ex, val_ex, wipeE, restE, Sl.keep, Option.getD_some, get_z, get_s, set_z, set_s, List.length_cons, List.length_nil, atI_0, atI_1, atI_2, atI_3, atI_4, ixN_5_0, ixN_5_1, ixN_5_2, ixN_5_3, ixN_5_4, D.bl.injEq, D.int.injEq, D.lst.injEq, D.tup.injEq, D.str.injEq, Sl.own.injEq, Sl.val.injEq, Option.some.injEq, exists_eq_left', exists_eq_left, exists_eq', exists_eq, or_true, true_or, or_false, false_or, CMul, CPow, natAbs_10, natAbs_2, Int.cast_ofNat_Int, Nat.reducePow, exists_and_left, exists_const, and_assoc, true_and, and_true, and_self, false_and, and_false, if_true, if_false, ite_true, ite_false, reduceCtorEq, decide_true, decide_false, decide_eq_true_eq, decide_eq_false_iff_not, Bool.not_true, Bool.not_false, Bool.false_eq_true, List.replicate_zero, List.replicate_succ, List.map_cons, List.map_nil, List.nil_append, List.cons_append, Nat.reduceSub, Nat.reduceAdd, Nat.reduceLeDiff, Nat.reduceLT, Int.reduceLT, Int.reduceLE, Int.reduceAdd, Int.reduceSub, Int.reduceMul, Int.reduceNeg, Int.reduceMod, Int.reduceDiv, Int.reducePow, Int.reduceToNat, okD_int, okD_bl, okD_lst, okD_tup, okD_non, okL_nil, okL_cons, okD_str, okL_int, eqD_int, eqD_bl, eqD_str, eqD_tup, eqD_lst, eqL_cons, eqL_nil, eqL_cn, eqL_nc, eqL_int, Bool.and_eq_true, Bool.or_eq_true, Bool.not_eq_true', Bool.and_false, Bool.false_and, Bool.or_false, Bool.false_or, Bool.or_true, Bool.true_or, Bool.and_true, Bool.true_and, Bool.and_self, wIsT2, wDct0, wLstOf, wRepF, wAsgH, DV.hN, hIx, hCons, hNil, hTup, wLM, gCnt, gIdx, gList, gSorted, wAppPop, wRaise0, wRaise1, wTry, wIsE, wAct, wFl, flD, okD_bl])
  refine h _ _ fun a dd => ?_
  unfold B__law_word_5
  simp only [wSeq, wAsg, wOwn, wF, wLc, wSkip, wBrk, wCnt, wRet, wRetF, wRetN, wDrop, wIfS, wPar, wFor, wWh, wV, wApp, wExt, wSetIx, wAug, wVal, wLook, wC, wOp, wTst, wChain, wAnd, wOr, wNot, wAndV, wOrV, wNotV, wIf, wNil, wCons, wTup, wLst, wCall, wCB, wIsT, wiR1, wiR2, wiSq, wiEn, wiZip, gN, gT1, gT2, gT3, gT4, gT5, gT6, gT7, wYes, gAdd, DV.gSub, gMul, gMod, gDiv, gPow, gLt, gLe, gGt, gGe, gCmp, gEq, gNe, gIs, gIsN, DV.isNon, gIn, gNotIn, gIx, gSlc, wSlc, wNoP, wPart, gLen, gAbs, gInt, gMin2, gMax2, gAll, gAny, gSum, gTuple, wNeg, wRev, itemsOf, D.isTy, D.isHand, Sl.toD, big_0, big_1, big_2, big_3, big_4, big_5, big_6, big_7, big_8, big_9, big_10, big_11, big_12, draw_iff, own_ex, val_ex, wipeE, restE, Sl.keep, Option.getD_some, get_z, get_s, set_z, set_s, List.length_cons, List.length_nil, atI_0, atI_1, atI_2, atI_3, atI_4, ixN_5_0, ixN_5_1, ixN_5_2, ixN_5_3, ixN_5_4, D.bl.injEq, D.int.injEq, D.lst.injEq, D.tup.injEq, D.str.injEq, Sl.own.injEq, Sl.val.injEq, Option.some.injEq, exists_eq_left', exists_eq_left, exists_eq', exists_eq, or_true, true_or, or_false, false_or, CMul, CPow, natAbs_10, natAbs_2, Int.cast_ofNat_Int, Nat.reducePow, exists_and_left, exists_const, and_assoc, true_and, and_true, and_self, false_and, and_false, if_true, if_false, ite_true, ite_false, reduceCtorEq, decide_true, decide_false, decide_eq_true_eq, decide_eq_false_iff_not, Bool.not_true, Bool.not_false, Bool.false_eq_true, List.replicate_zero, List.replicate_succ, List.map_cons, List.map_nil, List.nil_append, List.cons_append, Nat.reduceSub, Nat.reduceAdd, Nat.reduceLeDiff, Nat.reduceLT, Int.reduceLT, Int.reduceLE, Int.reduceAdd, Int.reduceSub, Int.reduceMul, Int.reduceNeg, Int.reduceMod, Int.reduceDiv, Int.reducePow, Int.reduceToNat, okD_int, okD_bl, okD_lst, okD_tup, okD_non, okL_nil, okL_cons, okD_str, okL_int, eqD_int, eqD_bl, eqD_str, eqD_tup, eqD_lst, eqL_cons, eqL_nil, eqL_cn, eqL_nc, eqL_int, Bool.and_eq_true, Bool.or_eq_true, Bool.not_eq_true', Bool.and_false, Bool.false_and, Bool.or_false, Bool.false_or, Bool.or_true, Bool.true_or, Bool.and_true, Bool.true_and, Bool.and_self, wIsT2, wDct0, wLstOf, wRepF, wAsgH, DV.hN, hIx, hCons, hNil, hTup, wLM, gCnt, gIdx, gList, gSorted, wAppPop, wRaise0, wRaise1, wTry, wIsE, wAct, wFl, flD, okD_bl, nm3, nm4]
  unfold B__law_word_6
  (try simp only [wSeq, wAsg, wOwn, wF, wLc, wSkip, wBrk, wCnt, wRet, wRetF, wRetN, wDrop, wIfS, wPar, wFor, wWh, wV, wApp, wExt, wSetIx, wAug, wVal, wLook, wC, wOp, wTst, wChain, wAnd, wOr, wNot, wAndV, wOrV, wNotV, wIf, wNil, wCons, wTup, wLst, wCall, wCB, wIsT, wiR1, wiR2, wiSq, wiEn, wiZip, gN, gT1, gT2, gT3, gT4, gT5, gT6, gT7, wYes, gAdd, DV.gSub, gMul, gMod, gDiv, gPow, gLt, gLe, gGt, gGe, gCmp, gEq, gNe, gIs, gIsN, DV.isNon, gIn, gNotIn, gIx, gSlc, wSlc, wNoP, wPart, gLen, gAbs, gInt, gMin2, gMax2, gAll, gAny, gSum, gTuple, wNeg, wRev, itemsOf, D.isTy, D.isHand, Sl.toD, big_0, big_1, big_2, big_3, big_4, big_5, big_6, big_7, big_8, big_9, big_10, big_11, big_12, draw_iff, own_ex, val_ex, wipeE, restE, Sl.keep, Option.getD_some, get_z, get_s, set_z, set_s, List.length_cons, List.length_nil, atI_0, atI_1, atI_2, atI_3, atI_4, ixN_5_0, ixN_5_1, ixN_5_2, ixN_5_3, ixN_5_4, D.bl.injEq, D.int.injEq, D.lst.injEq, D.tup.injEq, D.str.injEq, Sl.own.injEq, Sl.val.injEq, Option.some.injEq, exists_eq_left', exists_eq_left, exists_eq', exists_eq, or_true, true_or, or_false, false_or, CMul, CPow, natAbs_10, natAbs_2, Int.cast_ofNat_Int, Nat.reducePow, exists_and_left, exists_const, and_assoc, true_and, and_true, and_self, false_and, and_false, if_true, if_false, ite_true, ite_false, reduceCtorEq, decide_true, decide_false, decide_eq_true_eq, decide_eq_false_iff_not, Bool.not_true, Bool.not_false, Bool.false_eq_true, List.replicate_zero, List.replicate_succ, List.map_cons, List.map_nil, List.nil_append, List.cons_append, Nat.reduceSub, Nat.reduceAdd, Nat.reduceLeDiff, Nat.reduceLT, Int.reduceLT, Int.reduceLE, Int.reduceAdd, Int.reduceSub, Int.reduceMul, Int.reduceNeg, Int.reduceMod, Int.reduceDiv, Int.reducePow, Int.reduceToNat, okD_int, okD_bl, okD_lst, okD_tup, okD_non, okL_nil, okL_cons, okD_str, okL_int, eqD_int, eqD_bl, eqD_str, eqD_tup, eqD_lst, eqL_cons, eqL_nil, eqL_cn, eqL_nc, eqL_int, Bool.and_eq_true, Bool.or_eq_true, Bool.not_eq_true', Bool.and_false, Bool.false_and, Bool.or_false, Bool.false_or, Bool.or_true, Bool.true_or, Bool.and_true, Bool.true_and, Bool.and_self, wIsT2, wDct0, wLstOf, wRepF, wAsgH, DV.hN, hIx, hCons, hNil, hTup, wLM, gCnt, gIdx, gList, gSorted, wAppPop, wRaise0, wRaise1, wTry, wIsE, wAct, wFl, flD, okD_bl])
  unfold B__law_word_7
  simp only [wSeq, wAsg, wOwn, wF, wLc, wSkip, wBrk, wCnt, wRet, wRetF, wRetN, wDrop, wIfS, wPar, wFor, wWh, wV, wApp, wExt, wSetIx, wAug, wVal, wLook, wC, wOp, wTst, wChain, wAnd, wOr, wNot, wAndV, wOrV, wNotV, wIf, wNil, wCons, wTup, wLst, wCall, wCB, wIsT, wiR1, wiR2, wiSq, wiEn, wiZip, gN, gT1, gT2, gT3, gT4, gT5, gT6, gT7, wYes, gAdd, DV.gSub, gMul, gMod, gDiv, gPow, gLt, gLe, gGt, gGe, gCmp, gEq, gNe, gIs, gIsN, DV.isNon, gIn, gNotIn, gIx, gSlc, wSlc, wNoP, wPart, gLen, gAbs, gInt, gMin2, gMax2, gAll, gAny, gSum, gTuple, wNeg, wRev, itemsOf, D.isTy, D.isHand, Sl.toD, big_0, big_1, big_2, big_3, big_4, big_5, big_6, big_7, big_8, big_9, big_10, big_11, big_12, draw_iff, own_ex, val_ex, wipeE, restE, Sl.keep, Option.getD_some, get_z, get_s, set_z, set_s, List.length_cons, List.length_nil, atI_0, atI_1, atI_2, atI_3, atI_4, ixN_5_0, ixN_5_1, ixN_5_2, ixN_5_3, ixN_5_4, D.bl.injEq, D.int.injEq, D.lst.injEq, D.tup.injEq, D.str.injEq, Sl.own.injEq, Sl.val.injEq, Option.some.injEq, exists_eq_left', exists_eq_left, exists_eq', exists_eq, or_true, true_or, or_false, false_or, CMul, CPow, natAbs_10, natAbs_2, Int.cast_ofNat_Int, Nat.reducePow, exists_and_left, exists_const, and_assoc, true_and, and_true, and_self, false_and, and_false, if_true, if_false, ite_true, ite_false, reduceCtorEq, decide_true, decide_false, decide_eq_true_eq, decide_eq_false_iff_not, Bool.not_true, Bool.not_false, Bool.false_eq_true, List.replicate_zero, List.replicate_succ, List.map_cons, List.map_nil, List.nil_append, List.cons_append, Nat.reduceSub, Nat.reduceAdd, Nat.reduceLeDiff, Nat.reduceLT, Int.reduceLT, Int.reduceLE, Int.reduceAdd, Int.reduceSub, Int.reduceMul, Int.reduceNeg, Int.reduceMod, Int.reduceDiv, Int.reducePow, Int.reduceToNat, okD_int, okD_bl, okD_lst, okD_tup, okD_non, okL_nil, okL_cons, okD_str, okL_int, eqD_int, eqD_bl, eqD_str, eqD_tup, eqD_lst, eqL_cons, eqL_nil, eqL_cn, eqL_nc, eqL_int, Bool.and_eq_true, Bool.or_eq_true, Bool.not_eq_true', Bool.and_false, Bool.false_and, Bool.or_false, Bool.false_or, Bool.or_true, Bool.true_or, Bool.and_true, Bool.true_and, Bool.and_self, wIsT2, wDct0, wLstOf, wRepF, wAsgH, DV.hN, hIx, hCons, hNil, hTup, wLM, gCnt, gIdx, gList, gSorted, wAppPop, wRaise0, wRaise1, wTry, wIsE, wAct, wFl, flD, okD_bl, eqD_bl, List.all_cons, List.all_nil, List.countP_cons, List.countP_nil, List.findIdx?_cons]
  unfold B__law_word_8
  simp only [wSeq, wAsg, wOwn, wF, wLc, wSkip, wBrk, wCnt, wRet, wRetF, wRetN, wDrop, wIfS, wPar, wFor, wWh, wV, wApp, wExt, wSetIx, wAug, wVal, wLook, wC, wOp, wTst, wChain, wAnd, wOr, wNot, wAndV, wOrV, wNotV, wIf, wNil, wCons, wTup, wLst, wCall, wCB, wIsT, wiR1, wiR2, wiSq, wiEn, wiZip, gN, gT1, gT2, gT3, gT4, gT5, gT6, gT7, wYes, gAdd, DV.gSub, gMul, gMod, gDiv, gPow, gLt, gLe, gGt, gGe, gCmp, gEq, gNe, gIs, gIsN, DV.isNon, gIn, gNotIn, gIx, gSlc, wSlc, wNoP, wPart, gLen, gAbs, gInt, gMin2, gMax2, gAll, gAny, gSum, gTuple, wNeg, wRev, itemsOf, D.isTy, D.isHand, Sl.toD, big_0, big_1, big_2, big_3, big_4, big_5, big_6, big_7, big_8, big_9, big_10, big_11, big_12, draw_iff, own_ex, val_ex, wipeE, restE, Sl.keep, Option.getD_some, get_z, get_s, set_z, set_s, List.length_cons, List.length_nil, atI_0, atI_1, atI_2, atI_3, atI_4, ixN_5_0, ixN_5_1, ixN_5_2, ixN_5_3, ixN_5_4, D.bl.injEq, D.int.injEq, D.lst.injEq, D.tup.injEq, D.str.injEq, Sl.own.injEq, Sl.val.injEq, Option.some.injEq, exists_eq_left', exists_eq_left, exists_eq', exists_eq, or_true, true_or, or_false, false_or, CMul, CPow, natAbs_10, natAbs_2, Int.cast_ofNat_Int, Nat.reducePow, exists_and_left, exists_const, and_assoc, true_and, and_true, and_self, false_and, and_false, if_true, if_false, ite_true, ite_false, reduceCtorEq, decide_true, decide_false, decide_eq_true_eq, decide_eq_false_iff_not, Bool.not_true, Bool.not_false, Bool.false_eq_true, List.replicate_zero, List.replicate_succ, List.map_cons, List.map_nil, List.nil_append, List.cons_append, Nat.reduceSub, Nat.reduceAdd, Nat.reduceLeDiff, Nat.reduceLT, Int.reduceLT, Int.reduceLE, Int.reduceAdd, Int.reduceSub, Int.reduceMul, Int.reduceNeg, Int.reduceMod, Int.reduceDiv, Int.reducePow, Int.reduceToNat, okD_int, okD_bl, okD_lst, okD_tup, okD_non, okL_nil, okL_cons, okD_str, okL_int, eqD_int, eqD_bl, eqD_str, eqD_tup, eqD_lst, eqL_cons, eqL_nil, eqL_cn, eqL_nc, eqL_int, Bool.and_eq_true, Bool.or_eq_true, Bool.not_eq_true', Bool.and_false, Bool.false_and, Bool.or_false, Bool.false_or, Bool.or_true, Bool.true_or, Bool.and_true, Bool.true_and, Bool.and_self, wIsT2, wDct0, wLstOf, wRepF, wAsgH, DV.hN, hIx, hCons, hNil, hTup, wLM, gCnt, gIdx, gList, gSorted, wAppPop, wRaise0, wRaise1, wTry, wIsE, wAct, wFl, flD, okD_bl, eqD_bl, List.all_cons, List.all_nil, List.findIdx?_cons]
  unfold B__law_word_9
  (try simp only [wSeq, wAsg, wOwn, wF, wLc, wSkip, wBrk, wCnt, wRet, wRetF, wRetN, wDrop, wIfS, wPar, wFor, wWh, wV, wApp, wExt, wSetIx, wAug, wVal, wLook, wC, wOp, wTst, wChain, wAnd, wOr, wNot, wAndV, wOrV, wNotV, wIf, wNil, wCons, wTup, wLst, wCall, wCB, wIsT, wiR1, wiR2, wiSq, wiEn, wiZip, gN, gT1, gT2, gT3, gT4, gT5, gT6, gT7, wYes, gAdd, DV.gSub, gMul, gMod, gDiv, gPow, gLt, gLe, gGt, gGe, gCmp, gEq, gNe, gIs, gIsN, DV.isNon, gIn, gNotIn, gIx, gSlc, wSlc, wNoP, wPart, gLen, gAbs, gInt, gMin2, gMax2, gAll, gAny, gSum, gTuple, wNeg, wRev, itemsOf, D.isTy, D.isHand, Sl.toD, big_0, big_1, big_2, big_3, big_4, big_5, big_6, big_7, big_8, big_9, big_10, big_11, big_12, draw_iff, own_ex, val_ex, wipeE, restE, Sl.keep, Option.getD_some, get_z, get_s, set_z, set_s, List.length_cons, List.length_nil, atI_0, atI_1, atI_2, atI_3, atI_4, ixN_5_0, ixN_5_1, ixN_5_2, ixN_5_3, ixN_5_4, D.bl.injEq, D.int.injEq, D.lst.injEq, D.tup.injEq, D.str.injEq, Sl.own.injEq, Sl.val.injEq, Option.some.injEq, exists_eq_left', exists_eq_left, exists_eq', exists_eq, or_true, true_or, or_false, false_or, CMul, CPow, natAbs_10, natAbs_2, Int.cast_ofNat_Int, Nat.reducePow, exists_and_left, exists_const, and_assoc, true_and, and_true, and_self, false_and, and_false, if_true, if_false, ite_true, ite_false, reduceCtorEq, decide_true, decide_false, decide_eq_true_eq, decide_eq_false_iff_not, Bool.not_true, Bool.not_false, Bool.false_eq_true, List.replicate_zero, List.replicate_succ, List.map_cons, List.map_nil, List.nil_append, List.cons_append, Nat.reduceSub, Nat.reduceAdd, Nat.reduceLeDiff, Nat.reduceLT, Int.reduceLT, Int.reduceLE, Int.reduceAdd, Int.reduceSub, Int.reduceMul, Int.reduceNeg, Int.reduceMod, Int.reduceDiv, Int.reducePow, Int.reduceToNat, okD_int, okD_bl, okD_lst, okD_tup, okD_non, okL_nil, okL_cons, okD_str, okL_int, eqD_int, eqD_bl, eqD_str, eqD_tup, eqD_lst, eqL_cons, eqL_nil, eqL_cn, eqL_nc, eqL_int, Bool.and_eq_true, Bool.or_eq_true, Bool.not_eq_true', Bool.and_false, Bool.false_and, Bool.or_false, Bool.false_or, Bool.or_true, Bool.true_or, Bool.and_true, Bool.true_and, Bool.and_self, wIsT2, wDct0, wLstOf, wRepF, wAsgH, DV.hN, hIx, hCons, hNil, hTup, wLM, gCnt, gIdx, gList, gSorted, wAppPop, wRaise0, wRaise1, wTry, wIsE, wAct, wFl, flD, okD_bl])
  exact fun _ _ => ⟨1, rfl, _, atI_1, hq⟩
end
end Law

set_option Elab.async false
set_option linter.all false
set_option maxRecDepth 100000
namespace Law
open PySem PySem.Spec PyProof.Rows L2 DV
theorem ok_pl : PyData.strOk "place" = true := by decide +kernel
theorem ok_s : PyData.strOk "seen" = true := by decide +kernel
theorem ne_ps : ¬ (("place" : Str) = "seen") := by decide
theorem ne_sp : ¬ (("seen" : Str) = "place") := by decide
theorem least_cases (s m : Int) (pw : List (Int × Int)) : least s m pw = .tup [.str "seen"] ∨ ∃ p w a b, (p, w) ∈ pw ∧ 0 ≤ a ∧ a < s ∧ 0 ≤ b ∧ b < s ∧ ¬ a = b ∧ (a - b) * w % m = 0 ∧ least s m pw = .tup [.str "place", .int p, .int a, .int b] := by
  unfold least
  cases hf : pw.findSome? (fP s m) with
  | none => exact .inl rfl
  | some d =>
    obtain ⟨⟨p, w⟩, hk, h5⟩ := List.exists_of_findSome?_eq_some hf
    unfold fP at h5
    obtain ⟨a, ha, h6⟩ := List.exists_of_findSome?_eq_some h5
    unfold fA at h6
    obtain ⟨b, hb, h7⟩ := List.exists_of_findSome?_eq_some h6
    rw [mem_rangeI] at ha hb
    unfold fB hit at h7
    split at h7
    · rename_i h8
      cases h7
      simp only [Bool.and_eq_true, decide_eq_true_eq] at h8
      exact .inr ⟨p, w, a, b, hk, ha.1, ha.2, hb.1, hb.2, h8.1, h8.2, rfl⟩
    · cases h7
theorem ok_least {s m : Int} {pw : List (Int × Int)} : isOk 2 (least s m pw) := by
  rcases least_cases s m pw with e | ⟨p, w, a, b, _, _, _, _, _, _, _, e⟩ <;> rw [e]
  · refine ⟨by decide, fun x hx => ?_⟩
    rw [List.mem_singleton.mp hx]
    show okD _ 60 = true
    rw [okD_str]; exact ok_s
  · refine ⟨show 4 ≤ big by decide, fun x hx => ?_⟩
    rcases List.mem_cons.mp hx with rfl | hx
    · show okD _ 60 = true
      rw [okD_str]; exact ok_pl
    · simp only [List.mem_cons, List.not_mem_nil, or_false] at hx
      rcases hx with rfl | rfl | rfl <;> trivial
theorem isOk_mono : ∀ {n : Nat} {x : D}, isOk n x → isOk (n + 1) x
  | 0, _, h => h.elim
  | n + 1, .non, _ => trivial
  | n + 1, .bl _, _ => trivial
  | n + 1, .int _, _ => trivial
  | n + 1, .str _, h => h
  | n + 1, .tup _, h => ⟨h.1, fun x hx => isOk_mono (h.2 x hx)⟩
  | n + 1, .lst _, h => ⟨h.1, fun x hx => isOk_mono (h.2 x hx)⟩
  | n + 1, .dct _, h => h.elim
  | n + 1, .obj _ _, h => h.elim
  | n + 1, .frz _, h => h.elim
  | n + 1, .hand, h => h.elim

/-- nothing in common, enough signs: all is seen -/
theorem cop_seen {s m : Int} (c : Sm s m) {ws : List Int} (hw : Ws m ws) (h : ∀ w ∈ ws, s ≤ m ∧ Nat.gcd m.toNat w.toNat = 1) : least s m (enumI 0 ws) = .tup [.str "seen"] := by
  rcases least_cases s m (enumI 0 ws) with e | ⟨p, w, a, b, hm, a1, a2, b1, b2, ne, hz, e⟩
  · exact e
  · exfalso
    obtain ⟨s1, s2, m1, m2⟩ := c
    obtain ⟨hwm, _, _⟩ := enumI_mem hm
    have hw2 := hw.b _ hwm
    obtain ⟨g1, g2⟩ := h _ hwm
    have h3 : (m : Int) ∣ (a - b) * w := Int.dvd_of_emod_eq_zero hz
    have h4 : m.toNat ∣ (a - b).natAbs * w.toNat := by
      have := Int.natAbs_dvd_natAbs.mpr h3
      rw [Int.natAbs_mul] at this
      rw [show m.toNat = m.natAbs by omega, show w.toNat = w.natAbs by omega]
      exact this
    have h5 : m.toNat ∣ (a - b).natAbs := (show Nat.Coprime m.toNat w.toNat from g2).dvd_of_dvd_mul_right h4
    rcases Nat.eq_zero_or_pos (a - b).natAbs with h6 | h6
    · omega
    · have := Nat.le_of_dvd h6 h5
      omega
/-! ### sums by places -/
def sumW (W : Int → Int) : Int → List Int → Int
  | _, [] => 0
  | k, x :: r => x * W k + sumW W (k + 1) r
theorem sumW_app {W : Int → Int} : ∀ {k : Int} {xs ys : List Int}, sumW W k (xs ++ ys) = sumW W k xs + sumW W (k + xs.length) ys
  | k, [], ys => by simp [sumW]
  | k, x :: xs, ys => by
    rw [List.cons_append, sumW, sumW, sumW_app, List.length_cons]
    have : k + 1 + (xs.length : Int) = k + ((xs.length + 1 : Nat) : Int) := by omega
    rw [this]; omega
theorem sumW_zero {W : Int → Int} : ∀ {k : Int} {n : Nat}, sumW W k (List.replicate n 0) = 0
  | _, 0 => rfl
  | k, n + 1 => by rw [List.replicate_succ, sumW, sumW_zero]; simp
theorem sumW_eq {W : Int → Int} : ∀ {k : Int} {xs : List Int}, ((enumI k xs).map fun x => x.2 * W x.1).sum = sumW W k xs
  | _, [] => rfl
  | k, x :: xs => by rw [enumI, List.map_cons, List.sum_cons, sumW_eq, sumW]
theorem enumI_len : ∀ {k : Int} {ws : List Int}, (enumI k ws).length = ws.length
  | _, [] => rfl
  | k, _ :: r => by rw [enumI, List.length_cons, enumI_len, List.length_cons]
end Law

set_option Elab.async false
set_option linter.all false
set_option maxRecDepth 100000
namespace Law
open PySem PySem.Spec PyProof.Rows L2 DV
theorem cI_to {ws : List Int} {a : Nat} : DV.cutD (ws.map D.int) none (some (a : Int)) = (ws.take a).map D.int := by
  rw [cut_to rfl, List.map_take]
theorem cI_from {ws : List Int} {a : Nat} {i : Int} (h : i = a) : DV.cutD (ws.map D.int) (some i) none = (ws.drop a).map D.int := by
  rw [cut_from h, List.map_drop]
/-- the weight of a place -/
def wAt (ws : List Int) (k : Int) : Int := ws.getD (k % ws.length).toNat 0
theorem atW2 {ws : List Int} (hl : 1 ≤ ws.length) {p : Int} (hp : 0 ≤ p) : atI (ws.map D.int) (p % ws.length) = some (.int (wAt ws p)) := atW hl hp
theorem wAt_bd {m : Int} {ws : List Int} (hw : Ws m ws) {q : Int} (hq : 0 ≤ q) : 0 ≤ wAt ws q ∧ wAt ws q < m := by
  have hl := hw.l1
  have h1 : 0 ≤ q % ws.length := Int.emod_nonneg _ (by omega)
  have h2 : q % ws.length < ws.length := Int.emod_lt_of_pos _ (by omega)
  unfold wAt
  rw [getD_lt (show (q % ws.length).toNat < ws.length by omega)]
  exact hw.b _ (List.getElem_mem _)
theorem set_two (k p : Nat) (a b : Int) (h : p + 1 < k) : ((List.replicate k (0 : Int)).set p a).set (p + 1) b = List.replicate p 0 ++ a :: b :: List.replicate (k - p - 2) 0 := by
  apply List.ext_getElem
  · simp; omega
  · intro i h1 h2
    rw [List.getElem_set, List.getElem_set, List.getElem_replicate]
    by_cases e1 : p + 1 = i
    · subst e1
      rw [if_pos rfl, List.getElem_append_right (by simp)]
      simp
    · rw [if_neg e1]
      by_cases e2 : p = i
      · subst e2
        rw [if_pos rfl, List.getElem_append_right (by simp)]
        simp
      · rw [if_neg e2]
        by_cases e3 : i < p
        · rw [List.getElem_append_left (by simpa using e3)]
          simp
        · rw [List.getElem_append_right (by simp; omega)]
          obtain ⟨j, rfl⟩ : ∃ j, i = p + 2 + j := ⟨i - p - 2, by omega⟩
          simp only [List.length_replicate, show p + 2 + j - p = j + 2 by omega, List.getElem_cons_succ, List.getElem_replicate]
section
variable {Q : D → Prop} {E : Er → Prop}
theorem l23 {env : DV.Env} {P : Post} (h : ∀ e, P.rt (.bl true) e) : B__law_is_right_23 env P := by
  unfold B__law_is_right_23
  (try simp only [wSeq, wAsg, wOwn, wF, wLc, wSkip, wBrk, wCnt, wRet, wRetF, wRetN, wDrop, wIfS, wPar, wFor, wWh, wV, wApp, wExt, wSetIx, wAug, wVal, wLook, wC, wOp, wTst, wChain, wAnd, wOr, wNot, wAndV, wOrV, wNotV, wIf, wNil, wCons, wTup, wLst, wCall, wCB, wIsT, wiR1, wiR2, wiSq, wiEn, wiZip, gN, gT1, gT2, gT3, gT4, gT5, gT6, gT7, wYes, gAdd, DV.gSub, gMul, gMod, gDiv, gPow, gLt, gLe, gGt, gGe, gCmp, gEq, gNe, gIs, gIsN, DV.isNon, gIn, gNotIn, gIx, gSlc, wSlc, wNoP, wPart, gLen, gAbs, gInt, gMin2, gMax2, gAll, gAny, gSum, gTuple, wNeg, wRev, itemsOf, D.isTy, D.isHand, Sl.toD, big_0, big_1, big_2, big_3, big_4, big_5, big_6, big_7, big_8, big_9, big_10, big_11, big_12, draw_iff, own_ex, val_ex, wipeE, restE, Sl.keep, Option.getD_some, get_z, get_s, set_z, set_s, List.length_cons, List.length_nil, atI_0, atI_1, atI_2, atI_3, atI_4, ixN_5_0, ixN_5_1, ixN_5_2, ixN_5_3, ixN_5_4, D.bl.injEq, D.int.injEq, D.lst.injEq, D.tup.injEq, D.str.injEq, Sl.own.injEq, Sl.val.injEq, Option.some.injEq, exists_eq_left', exists_eq_left, exists_eq', exists_eq, or_true, true_or, or_false, false_or, CMul, CPow, natAbs_10, natAbs_2, Int.cast_ofNat_Int, Nat.reducePow, exists_and_left, exists_const, and_assoc, true_and, and_true, and_self, false_and, and_false, if_true, if_false, ite_true, ite_false, reduceCtorEq, decide_true, decide_false, decide_eq_true_eq, decide_eq_false_iff_not, Bool.not_true, Bool.not_false, Bool.false_eq_true, List.replicate_zero, List.replicate_succ, List.map_cons, List.map_nil, List.nil_append, List.cons_append, Nat.reduceSub, Nat.reduceAdd, Nat.reduceLeDiff, Nat.reduceLT, Int.reduceLT, Int.reduceLE, Int.reduceAdd, Int.reduceSub, Int.reduceMul, Int.reduceNeg, Int.reduceMod, Int.reduceDiv, Int.reducePow, Int.reduceToNat, okD_int, okD_bl, okD_lst, okD_tup, okD_non, okL_nil, okL_cons, okD_str, okL_int, eqD_int, eqD_bl, eqD_str, eqD_tup, eqD_lst, eqL_cons, eqL_nil, eqL_cn, eqL_nc, eqL_int, Bool.and_eq_true, Bool.or_eq_true, Bool.not_eq_true', Bool.and_false, Bool.false_and, Bool.or_false, Bool.false_or, Bool.or_true, Bool.true_or, Bool.and_true, Bool.true_and, Bool.and_self, wIsT2, wDct0, wLstOf, wRepF, wAsgH, DV.hN, hIx, hCons, hNil, hTup, wLM, gCnt, gIdx, gList, gSorted, wAppPop, wRaise0, wRaise1, wTry, wIsE, wAct, wFl, flD, okD_bl])
  exact h _
def T19 : Ts := wApp 11 (wOp gMod (wCB gInt (wCons (wCB gSum (wCons (wF (wLc (wiEn (wLook 12)) (DV.gTup 2 (DV.gCons (gN 14) (DV.gCons (gN 15) DV.gNil))) wYes (wOp gMul (wLook 15) (wOp gIx (wLook 3) (wOp gMod (wCB gInt (wCons (wLook 14) wNil)) (wCB gLen (wCons (wLook 3) wNil))))) [14, 15])) wNil)) wNil)) (wLook 2))
theorem sum_turn {m : Int} (m1 : 2 ≤ m) (m2 : m ≤ 200) {ws : List Int} (hw : Ws m ws) {row : List Int} (hr : row.length ≤ 24) (hb : ∀ x ∈ row, 0 ≤ x ∧ x < 40) {s0 s1 s4 s5 s6 s7 s8 s9 s10 s13 : Sl} {q : Addr} {acc : List D} {P : Post} (ha : acc.length ≤ 3)
    (h : P.nx [s0, s1, .val (.int m), .val (.tup (ws.map D.int)), s4, s5, s6, s7, s8, s9, s10, .own q (acc ++ [.int (sumW (wAt ws) 0 row % m)]), .val (.lst (row.map D.int)), s13, .no, .no]) :
    T19
      [s0, s1, .val (.int m), .val (.tup (ws.map D.int)), s4, s5, s6, s7, s8, s9, s10, .own q acc, .val (.lst (row.map D.int)), s13, .no, .no] P := by
  unfold T19
  simp only [wSeq, wAsg, wOwn, wF, wLc, wSkip, wBrk, wCnt, wRet, wRetF, wRetN, wDrop, wIfS, wPar, wFor, wWh, wV, wApp, wExt, wSetIx, wAug, wVal, wLook, wC, wOp, wTst, wChain, wAnd, wOr, wNot, wAndV, wOrV, wNotV, wIf, wNil, wCons, wTup, wLst, wCall, wCB, wIsT, wiR1, wiR2, wiSq, wiEn, wiZip, gN, gT1, gT2, gT3, gT4, gT5, gT6, gT7, wYes, gAdd, DV.gSub, gMul, gMod, gDiv, gPow, gLt, gLe, gGt, gGe, gCmp, gEq, gNe, gIs, gIsN, DV.isNon, gIn, gNotIn, gIx, gSlc, wSlc, wNoP, wPart, gLen, gAbs, gInt, gMin2, gMax2, gAll, gAny, gSum, gTuple, wNeg, wRev, itemsOf, D.isTy, D.isHand, Sl.toD, big_0, big_1, big_2, big_3, big_4, big_5, big_6, big_7, big_8, big_9, big_10, big_11, big_12, draw_iff, own_ex, val_ex, wipeE, restE, Sl.keep, Option.getD_some, get_z, get_s, set_z, set_s, List.length_cons, List.length_nil, atI_0, atI_1, atI_2, atI_3, atI_4, ixN_5_0, ixN_5_1, ixN_5_2, ixN_5_3, ixN_5_4, D.bl.injEq, D.int.injEq, D.lst.injEq, D.tup.injEq, D.str.injEq, Sl.own.injEq, Sl.val.injEq, Option.some.injEq, exists_eq_left', exists_eq_left, exists_eq', exists_eq, or_true, true_or, or_false, false_or, CMul, CPow, natAbs_10, natAbs_2, Int.cast_ofNat_Int, Nat.reducePow, exists_and_left, exists_const, and_assoc, true_and, and_true, and_self, false_and, and_false, if_true, if_false, ite_true, ite_false, reduceCtorEq, decide_true, decide_false, decide_eq_true_eq, decide_eq_false_iff_not, Bool.not_true, Bool.not_false, Bool.false_eq_true, List.replicate_zero, List.replicate_succ, List.map_cons, List.map_nil, List.nil_append, List.cons_append, Nat.reduceSub, Nat.reduceAdd, Nat.reduceLeDiff, Nat.reduceLT, Int.reduceLT, Int.reduceLE, Int.reduceAdd, Int.reduceSub, Int.reduceMul, Int.reduceNeg, Int.reduceMod, Int.reduceDiv, Int.reducePow, Int.reduceToNat, okD_int, okD_bl, okD_lst, okD_tup, okD_non, okL_nil, okL_cons, okD_str, okL_int, eqD_int, eqD_bl, eqD_str, eqD_tup, eqD_lst, eqL_cons, eqL_nil, eqL_cn, eqL_nc, eqL_int, Bool.and_eq_true, Bool.or_eq_true, Bool.not_eq_true', Bool.and_false, Bool.false_and, Bool.or_false, Bool.false_or, Bool.or_true, Bool.true_or, Bool.and_true, Bool.true_and, Bool.and_self, wIsT2, wDct0, wLstOf, wRepF, wAsgH, DV.hN, hIx, hCons, hNil, hTup, wLM, gCnt, gIdx, gList, gSorted, wAppPop, wRaise0, wRaise1, wTry, wIsE, wAct, wFl, flD, okD_bl, List.length_map, enumD_len]
  refine ⟨by unfold big; omega, ?_⟩
  rw [show enumD 0 (row.map D.int) = (enumI 0 row).map embP from enumD_map 0 row]
  refine lc_map (fun d => match d with | .tup [.int k, .int x] => .int (x * wAt ws k) | d => d) (fun d hd K' hk => ?_) fun a => ?_
  · obtain ⟨⟨k, x⟩, hx, rfl⟩ := List.mem_map.mp hd
    obtain ⟨x1, x2, x3⟩ := enumI_mem hx
    have hb2 := hb _ x1
    have l1 := hw.l1
    unfold embP at hk ⊢
    simp only [wSeq, wAsg, wOwn, wF, wLc, wSkip, wBrk, wCnt, wRet, wRetF, wRetN, wDrop, wIfS, wPar, wFor, wWh, wV, wApp, wExt, wSetIx, wAug, wVal, wLook, wC, wOp, wTst, wChain, wAnd, wOr, wNot, wAndV, wOrV, wNotV, wIf, wNil, wCons, wTup, wLst, wCall, wCB, wIsT, wiR1, wiR2, wiSq, wiEn, wiZip, gN, gT1, gT2, gT3, gT4, gT5, gT6, gT7, wYes, gAdd, DV.gSub, gMul, gMod, gDiv, gPow, gLt, gLe, gGt, gGe, gCmp, gEq, gNe, gIs, gIsN, DV.isNon, gIn, gNotIn, gIx, gSlc, wSlc, wNoP, wPart, gLen, gAbs, gInt, gMin2, gMax2, gAll, gAny, gSum, gTuple, wNeg, wRev, itemsOf, D.isTy, D.isHand, Sl.toD, big_0, big_1, big_2, big_3, big_4, big_5, big_6, big_7, big_8, big_9, big_10, big_11, big_12, draw_iff, own_ex, val_ex, wipeE, restE, Sl.keep, Option.getD_some, get_z, get_s, set_z, set_s, List.length_cons, List.length_nil, atI_0, atI_1, atI_2, atI_3, atI_4, ixN_5_0, ixN_5_1, ixN_5_2, ixN_5_3, ixN_5_4, D.bl.injEq, D.int.injEq, D.lst.injEq, D.tup.injEq, D.str.injEq, Sl.own.injEq, Sl.val.injEq, Option.some.injEq, exists_eq_left', exists_eq_left, exists_eq', exists_eq, or_true, true_or, or_false, false_or, CMul, CPow, natAbs_10, natAbs_2, Int.cast_ofNat_Int, Nat.reducePow, exists_and_left, exists_const, and_assoc, true_and, and_true, and_self, false_and, and_false, if_true, if_false, ite_true, ite_false, reduceCtorEq, decide_true, decide_false, decide_eq_true_eq, decide_eq_false_iff_not, Bool.not_true, Bool.not_false, Bool.false_eq_true, List.replicate_zero, List.replicate_succ, List.map_cons, List.map_nil, List.nil_append, List.cons_append, Nat.reduceSub, Nat.reduceAdd, Nat.reduceLeDiff, Nat.reduceLT, Int.reduceLT, Int.reduceLE, Int.reduceAdd, Int.reduceSub, Int.reduceMul, Int.reduceNeg, Int.reduceMod, Int.reduceDiv, Int.reducePow, Int.reduceToNat, okD_int, okD_bl, okD_lst, okD_tup, okD_non, okL_nil, okL_cons, okD_str, okL_int, eqD_int, eqD_bl, eqD_str, eqD_tup, eqD_lst, eqL_cons, eqL_nil, eqL_cn, eqL_nc, eqL_int, Bool.and_eq_true, Bool.or_eq_true, Bool.not_eq_true', Bool.and_false, Bool.false_and, Bool.or_false, Bool.false_or, Bool.or_true, Bool.true_or, Bool.and_true, Bool.true_and, Bool.and_self, wIsT2, wDct0, wLstOf, wRepF, wAsgH, DV.hN, hIx, hCons, hNil, hTup, wLM, gCnt, gIdx, gList, gSorted, wAppPop, wRaise0, wRaise1, wTry, wIsE, wAct, wFl, flD, okD_bl, List.length_map, atW2 l1 (show 0 ≤ k from x2)]
    exact ⟨by omega, .inl ⟨by omega, by omega⟩, hk⟩
  · have e1 : List.map (fun d => match d with | .tup [.int k, .int x] => .int (x * wAt ws k) | d => d) ((enumI 0 row).map embP) = ((enumI 0 row).map fun x => x.2 * wAt ws x.1).map D.int := by
      rw [List.map_map, List.map_map]; rfl
    simp only [wSeq, wAsg, wOwn, wF, wLc, wSkip, wBrk, wCnt, wRet, wRetF, wRetN, wDrop, wIfS, wPar, wFor, wWh, wV, wApp, wExt, wSetIx, wAug, wVal, wLook, wC, wOp, wTst, wChain, wAnd, wOr, wNot, wAndV, wOrV, wNotV, wIf, wNil, wCons, wTup, wLst, wCall, wCB, wIsT, wiR1, wiR2, wiSq, wiEn, wiZip, gN, gT1, gT2, gT3, gT4, gT5, gT6, gT7, wYes, gAdd, DV.gSub, gMul, gMod, gDiv, gPow, gLt, gLe, gGt, gGe, gCmp, gEq, gNe, gIs, gIsN, DV.isNon, gIn, gNotIn, gIx, gSlc, wSlc, wNoP, wPart, gLen, gAbs, gInt, gMin2, gMax2, gAll, gAny, gSum, gTuple, wNeg, wRev, itemsOf, D.isTy, D.isHand, Sl.toD, big_0, big_1, big_2, big_3, big_4, big_5, big_6, big_7, big_8, big_9, big_10, big_11, big_12, draw_iff, own_ex, val_ex, wipeE, restE, Sl.keep, Option.getD_some, get_z, get_s, set_z, set_s, List.length_cons, List.length_nil, atI_0, atI_1, atI_2, atI_3, atI_4, ixN_5_0, ixN_5_1, ixN_5_2, ixN_5_3, ixN_5_4, D.bl.injEq, D.int.injEq, D.lst.injEq, D.tup.injEq, D.str.injEq, Sl.own.injEq, Sl.val.injEq, Option.some.injEq, exists_eq_left', exists_eq_left, exists_eq', exists_eq, or_true, true_or, or_false, false_or, CMul, CPow, natAbs_10, natAbs_2, Int.cast_ofNat_Int, Nat.reducePow, exists_and_left, exists_const, and_assoc, true_and, and_true, and_self, false_and, and_false, if_true, if_false, ite_true, ite_false, reduceCtorEq, decide_true, decide_false, decide_eq_true_eq, decide_eq_false_iff_not, Bool.not_true, Bool.not_false, Bool.false_eq_true, List.replicate_zero, List.replicate_succ, List.map_cons, List.map_nil, List.nil_append, List.cons_append, Nat.reduceSub, Nat.reduceAdd, Nat.reduceLeDiff, Nat.reduceLT, Int.reduceLT, Int.reduceLE, Int.reduceAdd, Int.reduceSub, Int.reduceMul, Int.reduceNeg, Int.reduceMod, Int.reduceDiv, Int.reducePow, Int.reduceToNat, okD_int, okD_bl, okD_lst, okD_tup, okD_non, okL_nil, okL_cons, okD_str, okL_int, eqD_int, eqD_bl, eqD_str, eqD_tup, eqD_lst, eqL_cons, eqL_nil, eqL_cn, eqL_nc, eqL_int, Bool.and_eq_true, Bool.or_eq_true, Bool.not_eq_true', Bool.and_false, Bool.false_and, Bool.or_false, Bool.false_or, Bool.or_true, Bool.true_or, Bool.and_true, Bool.true_and, Bool.and_self, wIsT2, wDct0, wLstOf, wRepF, wAsgH, DV.hN, hIx, hCons, hNil, hTup, wLM, gCnt, gIdx, gList, gSorted, wAppPop, wRaise0, wRaise1, wTry, wIsE, wAct, wFl, flD, okD_bl, e1, toIs_map, sumW_eq]
    exact ⟨by omega, by unfold big; omega, h⟩
end
end Law

set_option Elab.async false
set_option linter.all false
set_option maxRecDepth 100000
namespace Law
open PySem PySem.Spec PyProof.Rows L2 DV
section
variable {Q : D → Prop} {E : Er → Prop}
theorem mod_same {m a b w0 w1 : Int} (h : (a - b) * (w0 - w1) % m = 0) : (a * w0 + b * w1) % m = (b * w0 + a * w1) % m := by
  refine Int.emod_eq_emod_iff_emod_sub_eq_zero.mpr ?_
  have e : a * w0 + b * w1 - (b * w0 + a * w1) = (a - b) * (w0 - w1) := by
    rw [Int.sub_mul, Int.mul_sub, Int.mul_sub]; omega
  rw [e]; exact h
theorem l15 {s m : Int} (c : Sm s m) {ws : List Int} (hw : Ws m ws) {k p : Nat} (hk : k ≤ 24) (hp : p + 1 < k) {a b : Int} (a1 : 0 ≤ a) (a2 : a < s) (b1 : 0 ≤ b) (b2 : b < s) (hz : (a - b) * gapAt ws p % m = 0) {s5 s6 s7 s9 s10 s11 s12 s13 : Sl} {P : Post} (h : ∀ e, P.rt (.bl true) e) (h2 : ∀ e, P.nx e) :
    B__law_is_right_15 [.val .hand, .val (.int s), .val (.int m), .val (.tup (ws.map D.int)), .val (.int k), s5, s6, s7, .val (.tup [.str "place", .int p, .int a, .int b]), s9, s10, s11, s12, s13, .no, .no] P := by
  have ⟨s1, s2, m1, m2⟩ := c
  unfold B__law_is_right_15
  have e0 : (List.replicate k [D.int 0]).flatten = (List.replicate k (0 : Int)).map D.int := by simp
  simp only [wSeq, wAsg, wOwn, wF, wLc, wSkip, wBrk, wCnt, wRet, wRetF, wRetN, wDrop, wIfS, wPar, wFor, wWh, wV, wApp, wExt, wSetIx, wAug, wVal, wLook, wC, wOp, wTst, wChain, wAnd, wOr, wNot, wAndV, wOrV, wNotV, wIf, wNil, wCons, wTup, wLst, wCall, wCB, wIsT, wiR1, wiR2, wiSq, wiEn, wiZip, gN, gT1, gT2, gT3, gT4, gT5, gT6, gT7, wYes, gAdd, DV.gSub, gMul, gMod, gDiv, gPow, gLt, gLe, gGt, gGe, gCmp, gEq, gNe, gIs, gIsN, DV.isNon, gIn, gNotIn, gIx, gSlc, wSlc, wNoP, wPart, gLen, gAbs, gInt, gMin2, gMax2, gAll, gAny, gSum, gTuple, wNeg, wRev, itemsOf, D.isTy, D.isHand, Sl.toD, big_0, big_1, big_2, big_3, big_4, big_5, big_6, big_7, big_8, big_9, big_10, big_11, big_12, draw_iff, own_ex, val_ex, wipeE, restE, Sl.keep, Option.getD_some, get_z, get_s, set_z, set_s, List.length_cons, List.length_nil, atI_0, atI_1, atI_2, atI_3, atI_4, ixN_5_0, ixN_5_1, ixN_5_2, ixN_5_3, ixN_5_4, D.bl.injEq, D.int.injEq, D.lst.injEq, D.tup.injEq, D.str.injEq, Sl.own.injEq, Sl.val.injEq, Option.some.injEq, exists_eq_left', exists_eq_left, exists_eq', exists_eq, or_true, true_or, or_false, false_or, CMul, CPow, natAbs_10, natAbs_2, Int.cast_ofNat_Int, Nat.reducePow, exists_and_left, exists_const, and_assoc, true_and, and_true, and_self, false_and, and_false, if_true, if_false, ite_true, ite_false, reduceCtorEq, decide_true, decide_false, decide_eq_true_eq, decide_eq_false_iff_not, Bool.not_true, Bool.not_false, Bool.false_eq_true, List.replicate_zero, List.replicate_succ, List.map_cons, List.map_nil, List.nil_append, List.cons_append, Nat.reduceSub, Nat.reduceAdd, Nat.reduceLeDiff, Nat.reduceLT, Int.reduceLT, Int.reduceLE, Int.reduceAdd, Int.reduceSub, Int.reduceMul, Int.reduceNeg, Int.reduceMod, Int.reduceDiv, Int.reducePow, Int.reduceToNat, okD_int, okD_bl, okD_lst, okD_tup, okD_non, okL_nil, okL_cons, okD_str, okL_int, eqD_int, eqD_bl, eqD_str, eqD_tup, eqD_lst, eqL_cons, eqL_nil, eqL_cn, eqL_nc, eqL_int, Bool.and_eq_true, Bool.or_eq_true, Bool.not_eq_true', Bool.and_false, Bool.false_and, Bool.or_false, Bool.false_or, Bool.or_true, Bool.true_or, Bool.and_true, Bool.true_and, Bool.and_self, wIsT2, wDct0, wLstOf, wRepF, wAsgH, DV.hN, hIx, hCons, hNil, hTup, wLM, gCnt, gIdx, gList, gSorted, wAppPop, wRaise0, wRaise1, wTry, wIsE, wAct, wFl, flD, okD_bl, Int.toNat_natCast, e0]
  refine fun _ => ⟨by omega, by unfold big; omega, by omega, fun q => ?_⟩
  unfold B__law_is_right_16
  have i1 : ixN ((List.replicate k (0 : Int)).map D.int).length p = some p := by
    unfold ixN
    rw [if_pos (by omega), if_pos (by simp; omega)]; rfl
  have i2 : ixN (((List.replicate k (0 : Int)).map D.int).set p (.int a)).length ((p : Int) + 1) = some (p + 1) := by
    unfold ixN
    rw [if_pos (by omega), if_pos (by simp; omega)]; rfl
  simp only [wSeq, wAsg, wOwn, wF, wLc, wSkip, wBrk, wCnt, wRet, wRetF, wRetN, wDrop, wIfS, wPar, wFor, wWh, wV, wApp, wExt, wSetIx, wAug, wVal, wLook, wC, wOp, wTst, wChain, wAnd, wOr, wNot, wAndV, wOrV, wNotV, wIf, wNil, wCons, wTup, wLst, wCall, wCB, wIsT, wiR1, wiR2, wiSq, wiEn, wiZip, gN, gT1, gT2, gT3, gT4, gT5, gT6, gT7, wYes, gAdd, DV.gSub, gMul, gMod, gDiv, gPow, gLt, gLe, gGt, gGe, gCmp, gEq, gNe, gIs, gIsN, DV.isNon, gIn, gNotIn, gIx, gSlc, wSlc, wNoP, wPart, gLen, gAbs, gInt, gMin2, gMax2, gAll, gAny, gSum, gTuple, wNeg, wRev, itemsOf, D.isTy, D.isHand, Sl.toD, big_0, big_1, big_2, big_3, big_4, big_5, big_6, big_7, big_8, big_9, big_10, big_11, big_12, draw_iff, own_ex, val_ex, wipeE, restE, Sl.keep, Option.getD_some, get_z, get_s, set_z, set_s, List.length_cons, List.length_nil, atI_0, atI_1, atI_2, atI_3, atI_4, ixN_5_0, ixN_5_1, ixN_5_2, ixN_5_3, ixN_5_4, D.bl.injEq, D.int.injEq, D.lst.injEq, D.tup.injEq, D.str.injEq, Sl.own.injEq, Sl.val.injEq, Option.some.injEq, exists_eq_left', exists_eq_left, exists_eq', exists_eq, or_true, true_or, or_false, false_or, CMul, CPow, natAbs_10, natAbs_2, Int.cast_ofNat_Int, Nat.reducePow, exists_and_left, exists_const, and_assoc, true_and, and_true, and_self, false_and, and_false, if_true, if_false, ite_true, ite_false, reduceCtorEq, decide_true, decide_false, decide_eq_true_eq, decide_eq_false_iff_not, Bool.not_true, Bool.not_false, Bool.false_eq_true, List.replicate_zero, List.replicate_succ, List.map_cons, List.map_nil, List.nil_append, List.cons_append, Nat.reduceSub, Nat.reduceAdd, Nat.reduceLeDiff, Nat.reduceLT, Int.reduceLT, Int.reduceLE, Int.reduceAdd, Int.reduceSub, Int.reduceMul, Int.reduceNeg, Int.reduceMod, Int.reduceDiv, Int.reducePow, Int.reduceToNat, okD_int, okD_bl, okD_lst, okD_tup, okD_non, okL_nil, okL_cons, okD_str, okL_int, eqD_int, eqD_bl, eqD_str, eqD_tup, eqD_lst, eqL_cons, eqL_nil, eqL_cn, eqL_nc, eqL_int, Bool.and_eq_true, Bool.or_eq_true, Bool.not_eq_true', Bool.and_false, Bool.false_and, Bool.or_false, Bool.false_or, Bool.or_true, Bool.true_or, Bool.and_true, Bool.true_and, Bool.and_self, wIsT2, wDct0, wLstOf, wRepF, wAsgH, DV.hN, hIx, hCons, hNil, hTup, wLM, gCnt, gIdx, gList, gSorted, wAppPop, wRaise0, wRaise1, wTry, wIsE, wAct, wFl, flD, okD_bl, i1, i2, Option.some.injEq, D.int.injEq]
  have e1 : (((List.replicate k (0 : Int)).map D.int).set p (.int a)).set (p + 1) (.int b) = (List.replicate p 0 ++ a :: b :: List.replicate (k - p - 2) 0).map D.int := by
    rw [← set_two k p a b hp, List.map_set, List.map_set]
  simp only [wSeq, wAsg, wOwn, wF, wLc, wSkip, wBrk, wCnt, wRet, wRetF, wRetN, wDrop, wIfS, wPar, wFor, wWh, wV, wApp, wExt, wSetIx, wAug, wVal, wLook, wC, wOp, wTst, wChain, wAnd, wOr, wNot, wAndV, wOrV, wNotV, wIf, wNil, wCons, wTup, wLst, wCall, wCB, wIsT, wiR1, wiR2, wiSq, wiEn, wiZip, gN, gT1, gT2, gT3, gT4, gT5, gT6, gT7, wYes, gAdd, DV.gSub, gMul, gMod, gDiv, gPow, gLt, gLe, gGt, gGe, gCmp, gEq, gNe, gIs, gIsN, DV.isNon, gIn, gNotIn, gIx, gSlc, wSlc, wNoP, wPart, gLen, gAbs, gInt, gMin2, gMax2, gAll, gAny, gSum, gTuple, wNeg, wRev, itemsOf, D.isTy, D.isHand, Sl.toD, big_0, big_1, big_2, big_3, big_4, big_5, big_6, big_7, big_8, big_9, big_10, big_11, big_12, draw_iff, own_ex, val_ex, wipeE, restE, Sl.keep, Option.getD_some, get_z, get_s, set_z, set_s, List.length_cons, List.length_nil, atI_0, atI_1, atI_2, atI_3, atI_4, ixN_5_0, ixN_5_1, ixN_5_2, ixN_5_3, ixN_5_4, D.bl.injEq, D.int.injEq, D.lst.injEq, D.tup.injEq, D.str.injEq, Sl.own.injEq, Sl.val.injEq, Option.some.injEq, exists_eq_left', exists_eq_left, exists_eq', exists_eq, or_true, true_or, or_false, false_or, CMul, CPow, natAbs_10, natAbs_2, Int.cast_ofNat_Int, Nat.reducePow, exists_and_left, exists_const, and_assoc, true_and, and_true, and_self, false_and, and_false, if_true, if_false, ite_true, ite_false, reduceCtorEq, decide_true, decide_false, decide_eq_true_eq, decide_eq_false_iff_not, Bool.not_true, Bool.not_false, Bool.false_eq_true, List.replicate_zero, List.replicate_succ, List.map_cons, List.map_nil, List.nil_append, List.cons_append, Nat.reduceSub, Nat.reduceAdd, Nat.reduceLeDiff, Nat.reduceLT, Int.reduceLT, Int.reduceLE, Int.reduceAdd, Int.reduceSub, Int.reduceMul, Int.reduceNeg, Int.reduceMod, Int.reduceDiv, Int.reducePow, Int.reduceToNat, okD_int, okD_bl, okD_lst, okD_tup, okD_non, okL_nil, okL_cons, okD_str, okL_int, eqD_int, eqD_bl, eqD_str, eqD_tup, eqD_lst, eqL_cons, eqL_nil, eqL_cn, eqL_nc, eqL_int, Bool.and_eq_true, Bool.or_eq_true, Bool.not_eq_true', Bool.and_false, Bool.false_and, Bool.or_false, Bool.false_or, Bool.or_true, Bool.true_or, Bool.and_true, Bool.true_and, Bool.and_self, wIsT2, wDct0, wLstOf, wRepF, wAsgH, DV.hN, hIx, hCons, hNil, hTup, wLM, gCnt, gIdx, gList, gSorted, wAppPop, wRaise0, wRaise1, wTry, wIsE, wAct, wFl, flD, okD_bl, e1]
  generalize hL : List.replicate p (0 : Int) = L0
  generalize hR : List.replicate (k - p - 2) (0 : Int) = R0
  have lL : L0.length = p := by rw [← hL]; simp
  have lR : R0.length = k - p - 2 := by rw [← hR]; simp
  unfold B__law_is_right_17
  have f1 : atI ((L0 ++ a :: b :: R0).map D.int) ((p : Int) + 1) = some (.int b) := by
    rw [atI_nat (k := p + 1) (by omega), List.getElem?_map, List.getElem?_append_right (by omega), lL]; simp
  have f0 : atI ((L0 ++ a :: b :: R0).map D.int) (p : Int) = some (.int a) := by
    rw [atI_nat (k := p) rfl, List.getElem?_map, List.getElem?_append_right (by omega), lL]; simp
  have t0 : (L0 ++ a :: b :: R0).take p = L0 := by rw [← lL, List.take_left']; rfl
  have t1 : (L0 ++ a :: b :: R0).drop (p + 2) = R0 := by
    rw [List.drop_append, lL, List.drop_eq_nil_of_le (by omega), show p + 2 - p = 2 by omega]; rfl
  simp only [wSeq, wAsg, wOwn, wF, wLc, wSkip, wBrk, wCnt, wRet, wRetF, wRetN, wDrop, wIfS, wPar, wFor, wWh, wV, wApp, wExt, wSetIx, wAug, wVal, wLook, wC, wOp, wTst, wChain, wAnd, wOr, wNot, wAndV, wOrV, wNotV, wIf, wNil, wCons, wTup, wLst, wCall, wCB, wIsT, wiR1, wiR2, wiSq, wiEn, wiZip, gN, gT1, gT2, gT3, gT4, gT5, gT6, gT7, wYes, gAdd, DV.gSub, gMul, gMod, gDiv, gPow, gLt, gLe, gGt, gGe, gCmp, gEq, gNe, gIs, gIsN, DV.isNon, gIn, gNotIn, gIx, gSlc, wSlc, wNoP, wPart, gLen, gAbs, gInt, gMin2, gMax2, gAll, gAny, gSum, gTuple, wNeg, wRev, itemsOf, D.isTy, D.isHand, Sl.toD, big_0, big_1, big_2, big_3, big_4, big_5, big_6, big_7, big_8, big_9, big_10, big_11, big_12, draw_iff, own_ex, val_ex, wipeE, restE, Sl.keep, Option.getD_some, get_z, get_s, set_z, set_s, List.length_cons, List.length_nil, atI_0, atI_1, atI_2, atI_3, atI_4, ixN_5_0, ixN_5_1, ixN_5_2, ixN_5_3, ixN_5_4, D.bl.injEq, D.int.injEq, D.lst.injEq, D.tup.injEq, D.str.injEq, Sl.own.injEq, Sl.val.injEq, Option.some.injEq, exists_eq_left', exists_eq_left, exists_eq', exists_eq, or_true, true_or, or_false, false_or, CMul, CPow, natAbs_10, natAbs_2, Int.cast_ofNat_Int, Nat.reducePow, exists_and_left, exists_const, and_assoc, true_and, and_true, and_self, false_and, and_false, if_true, if_false, ite_true, ite_false, reduceCtorEq, decide_true, decide_false, decide_eq_true_eq, decide_eq_false_iff_not, Bool.not_true, Bool.not_false, Bool.false_eq_true, List.replicate_zero, List.replicate_succ, List.map_cons, List.map_nil, List.nil_append, List.cons_append, Nat.reduceSub, Nat.reduceAdd, Nat.reduceLeDiff, Nat.reduceLT, Int.reduceLT, Int.reduceLE, Int.reduceAdd, Int.reduceSub, Int.reduceMul, Int.reduceNeg, Int.reduceMod, Int.reduceDiv, Int.reducePow, Int.reduceToNat, okD_int, okD_bl, okD_lst, okD_tup, okD_non, okL_nil, okL_cons, okD_str, okL_int, eqD_int, eqD_bl, eqD_str, eqD_tup, eqD_lst, eqL_cons, eqL_nil, eqL_cn, eqL_nc, eqL_int, Bool.and_eq_true, Bool.or_eq_true, Bool.not_eq_true', Bool.and_false, Bool.false_and, Bool.or_false, Bool.false_or, Bool.or_true, Bool.true_or, Bool.and_true, Bool.true_and, Bool.and_self, wIsT2, wDct0, wLstOf, wRepF, wAsgH, DV.hN, hIx, hCons, hNil, hTup, wLM, gCnt, gIdx, gList, gSorted, wAppPop, wRaise0, wRaise1, wTry, wIsE, wAct, wFl, flD, okD_bl, cI_to, cI_from (ws := L0 ++ a :: b :: R0) (show (p : Int) + 2 = ((p + 2 : Nat) : Int) by omega), f0, f1, t0, t1, List.length_map]
  refine fun _ => ⟨by unfold big; omega, by unfold big; simp; omega, ?_⟩
  have e2 : List.map D.int L0 ++ [D.int b, D.int a] ++ List.map D.int R0 = (L0 ++ b :: a :: R0).map D.int := by simp
  simp only [wSeq, wAsg, wOwn, wF, wLc, wSkip, wBrk, wCnt, wRet, wRetF, wRetN, wDrop, wIfS, wPar, wFor, wWh, wV, wApp, wExt, wSetIx, wAug, wVal, wLook, wC, wOp, wTst, wChain, wAnd, wOr, wNot, wAndV, wOrV, wNotV, wIf, wNil, wCons, wTup, wLst, wCall, wCB, wIsT, wiR1, wiR2, wiSq, wiEn, wiZip, gN, gT1, gT2, gT3, gT4, gT5, gT6, gT7, wYes, gAdd, DV.gSub, gMul, gMod, gDiv, gPow, gLt, gLe, gGt, gGe, gCmp, gEq, gNe, gIs, gIsN, DV.isNon, gIn, gNotIn, gIx, gSlc, wSlc, wNoP, wPart, gLen, gAbs, gInt, gMin2, gMax2, gAll, gAny, gSum, gTuple, wNeg, wRev, itemsOf, D.isTy, D.isHand, Sl.toD, big_0, big_1, big_2, big_3, big_4, big_5, big_6, big_7, big_8, big_9, big_10, big_11, big_12, draw_iff, own_ex, val_ex, wipeE, restE, Sl.keep, Option.getD_some, get_z, get_s, set_z, set_s, List.length_cons, List.length_nil, atI_0, atI_1, atI_2, atI_3, atI_4, ixN_5_0, ixN_5_1, ixN_5_2, ixN_5_3, ixN_5_4, D.bl.injEq, D.int.injEq, D.lst.injEq, D.tup.injEq, D.str.injEq, Sl.own.injEq, Sl.val.injEq, Option.some.injEq, exists_eq_left', exists_eq_left, exists_eq', exists_eq, or_true, true_or, or_false, false_or, CMul, CPow, natAbs_10, natAbs_2, Int.cast_ofNat_Int, Nat.reducePow, exists_and_left, exists_const, and_assoc, true_and, and_true, and_self, false_and, and_false, if_true, if_false, ite_true, ite_false, reduceCtorEq, decide_true, decide_false, decide_eq_true_eq, decide_eq_false_iff_not, Bool.not_true, Bool.not_false, Bool.false_eq_true, List.replicate_zero, List.replicate_succ, List.map_cons, List.map_nil, List.nil_append, List.cons_append, Nat.reduceSub, Nat.reduceAdd, Nat.reduceLeDiff, Nat.reduceLT, Int.reduceLT, Int.reduceLE, Int.reduceAdd, Int.reduceSub, Int.reduceMul, Int.reduceNeg, Int.reduceMod, Int.reduceDiv, Int.reducePow, Int.reduceToNat, okD_int, okD_bl, okD_lst, okD_tup, okD_non, okL_nil, okL_cons, okD_str, okL_int, eqD_int, eqD_bl, eqD_str, eqD_tup, eqD_lst, eqL_cons, eqL_nil, eqL_cn, eqL_nc, eqL_int, Bool.and_eq_true, Bool.or_eq_true, Bool.not_eq_true', Bool.and_false, Bool.false_and, Bool.or_false, Bool.false_or, Bool.or_true, Bool.true_or, Bool.and_true, Bool.true_and, Bool.and_self, wIsT2, wDct0, wLstOf, wRepF, wAsgH, DV.hN, hIx, hCons, hNil, hTup, wLM, gCnt, gIdx, gList, gSorted, wAppPop, wRaise0, wRaise1, wTry, wIsE, wAct, wFl, flD, okD_bl, e2]
  unfold B__law_is_right_18
  (try simp only [wSeq, wAsg, wOwn, wF, wLc, wSkip, wBrk, wCnt, wRet, wRetF, wRetN, wDrop, wIfS, wPar, wFor, wWh, wV, wApp, wExt, wSetIx, wAug, wVal, wLook, wC, wOp, wTst, wChain, wAnd, wOr, wNot, wAndV, wOrV, wNotV, wIf, wNil, wCons, wTup, wLst, wCall, wCB, wIsT, wiR1, wiR2, wiSq, wiEn, wiZip, gN, gT1, gT2, gT3, gT4, gT5, gT6, gT7, wYes, gAdd, DV.gSub, gMul, gMod, gDiv, gPow, gLt, gLe, gGt, gGe, gCmp, gEq, gNe, gIs, gIsN, DV.isNon, gIn, gNotIn, gIx, gSlc, wSlc, wNoP, wPart, gLen, gAbs, gInt, gMin2, gMax2, gAll, gAny, gSum, gTuple, wNeg, wRev, itemsOf, D.isTy, D.isHand, Sl.toD, big_0, big_1, big_2, big_3, big_4, big_5, big_6, big_7, big_8, big_9, big_10, big_11, big_12, draw_iff, own_ex, val_ex, wipeE, restE, Sl.keep, Option.getD_some, get_z, get_s, set_z, set_s, List.length_cons, List.length_nil, atI_0, atI_1, atI_2, atI_3, atI_4, ixN_5_0, ixN_5_1, ixN_5_2, ixN_5_3, ixN_5_4, D.bl.injEq, D.int.injEq, D.lst.injEq, D.tup.injEq, D.str.injEq, Sl.own.injEq, Sl.val.injEq, Option.some.injEq, exists_eq_left', exists_eq_left, exists_eq', exists_eq, or_true, true_or, or_false, false_or, CMul, CPow, natAbs_10, natAbs_2, Int.cast_ofNat_Int, Nat.reducePow, exists_and_left, exists_const, and_assoc, true_and, and_true, and_self, false_and, and_false, if_true, if_false, ite_true, ite_false, reduceCtorEq, decide_true, decide_false, decide_eq_true_eq, decide_eq_false_iff_not, Bool.not_true, Bool.not_false, Bool.false_eq_true, List.replicate_zero, List.replicate_succ, List.map_cons, List.map_nil, List.nil_append, List.cons_append, Nat.reduceSub, Nat.reduceAdd, Nat.reduceLeDiff, Nat.reduceLT, Int.reduceLT, Int.reduceLE, Int.reduceAdd, Int.reduceSub, Int.reduceMul, Int.reduceNeg, Int.reduceMod, Int.reduceDiv, Int.reducePow, Int.reduceToNat, okD_int, okD_bl, okD_lst, okD_tup, okD_non, okL_nil, okL_cons, okD_str, okL_int, eqD_int, eqD_bl, eqD_str, eqD_tup, eqD_lst, eqL_cons, eqL_nil, eqL_cn, eqL_nc, eqL_int, Bool.and_eq_true, Bool.or_eq_true, Bool.not_eq_true', Bool.and_false, Bool.false_and, Bool.or_false, Bool.false_or, Bool.or_true, Bool.true_or, Bool.and_true, Bool.true_and, Bool.and_self, wIsT2, wDct0, wLstOf, wRepF, wAsgH, DV.hN, hIx, hCons, hNil, hTup, wLM, gCnt, gIdx, gList, gSorted, wAppPop, wRaise0, wRaise1, wTry, wIsE, wAct, wFl, flD, okD_bl])
  intro q2
  rw [show B__law_is_right_19 = wSeq (wFor (wiSq (wTup (wCons (wVal 9) (wCons (wVal 10) wNil)))) (gN 12) T19) B__law_is_right_21 from rfl]
  simp only [wSeq, wAsg, wOwn, wF, wLc, wSkip, wBrk, wCnt, wRet, wRetF, wRetN, wDrop, wIfS, wPar, wFor, wWh, wV, wApp, wExt, wSetIx, wAug, wVal, wLook, wC, wOp, wTst, wChain, wAnd, wOr, wNot, wAndV, wOrV, wNotV, wIf, wNil, wCons, wTup, wLst, wCall, wCB, wIsT, wiR1, wiR2, wiSq, wiEn, wiZip, gN, gT1, gT2, gT3, gT4, gT5, gT6, gT7, wYes, gAdd, DV.gSub, gMul, gMod, gDiv, gPow, gLt, gLe, gGt, gGe, gCmp, gEq, gNe, gIs, gIsN, DV.isNon, gIn, gNotIn, gIx, gSlc, wSlc, wNoP, wPart, gLen, gAbs, gInt, gMin2, gMax2, gAll, gAny, gSum, gTuple, wNeg, wRev, itemsOf, D.isTy, D.isHand, Sl.toD, big_0, big_1, big_2, big_3, big_4, big_5, big_6, big_7, big_8, big_9, big_10, big_11, big_12, draw_iff, own_ex, val_ex, wipeE, restE, Sl.keep, Option.getD_some, get_z, get_s, set_z, set_s, List.length_cons, List.length_nil, atI_0, atI_1, atI_2, atI_3, atI_4, ixN_5_0, ixN_5_1, ixN_5_2, ixN_5_3, ixN_5_4, D.bl.injEq, D.int.injEq, D.lst.injEq, D.tup.injEq, D.str.injEq, Sl.own.injEq, Sl.val.injEq, Option.some.injEq, exists_eq_left', exists_eq_left, exists_eq', exists_eq, or_true, true_or, or_false, false_or, CMul, CPow, natAbs_10, natAbs_2, Int.cast_ofNat_Int, Nat.reducePow, exists_and_left, exists_const, and_assoc, true_and, and_true, and_self, false_and, and_false, if_true, if_false, ite_true, ite_false, reduceCtorEq, decide_true, decide_false, decide_eq_true_eq, decide_eq_false_iff_not, Bool.not_true, Bool.not_false, Bool.false_eq_true, List.replicate_zero, List.replicate_succ, List.map_cons, List.map_nil, List.nil_append, List.cons_append, Nat.reduceSub, Nat.reduceAdd, Nat.reduceLeDiff, Nat.reduceLT, Int.reduceLT, Int.reduceLE, Int.reduceAdd, Int.reduceSub, Int.reduceMul, Int.reduceNeg, Int.reduceMod, Int.reduceDiv, Int.reducePow, Int.reduceToNat, okD_int, okD_bl, okD_lst, okD_tup, okD_non, okL_nil, okL_cons, okD_str, okL_int, eqD_int, eqD_bl, eqD_str, eqD_tup, eqD_lst, eqL_cons, eqL_nil, eqL_cn, eqL_nc, eqL_int, Bool.and_eq_true, Bool.or_eq_true, Bool.not_eq_true', Bool.and_false, Bool.false_and, Bool.or_false, Bool.false_or, Bool.or_true, Bool.true_or, Bool.and_true, Bool.true_and, Bool.and_self, wIsT2, wDct0, wLstOf, wRepF, wAsgH, DV.hN, hIx, hCons, hNil, hTup, wLM, gCnt, gIdx, gList, gSorted, wAppPop, wRaise0, wRaise1, wTry, wIsE, wAct, wFl, flD, okD_bl, forGo]
  have bd : ∀ x y : Int, 0 ≤ x → x < 40 → 0 ≤ y → y < 40 → ∀ z ∈ L0 ++ x :: y :: R0, 0 ≤ z ∧ z < 40 := by
    intro x y x1 x2 y1 y2 z hz
    rcases List.mem_append.mp hz with hz | hz
    · rw [← hL] at hz
      have := List.eq_of_mem_replicate hz
      omega
    · rcases List.mem_cons.mp hz with rfl | hz
      · omega
      · rcases List.mem_cons.mp hz with rfl | hz
        · omega
        · rw [← hR] at hz
          have := List.eq_of_mem_replicate hz
          omega
  have sv : ∀ x y : Int, sumW (wAt ws) 0 (L0 ++ x :: y :: R0) = x * wAt ws p + y * wAt ws (p + 1) := by
    intro x y
    rw [sumW_app, sumW, sumW, lL, ← hL, ← hR, sumW_zero, sumW_zero]
    simp
  have key : sumW (wAt ws) 0 (L0 ++ a :: b :: R0) % m = sumW (wAt ws) 0 (L0 ++ b :: a :: R0) % m := by
    rw [sv, sv]
    exact mod_same hz
  refine sum_turn m1 m2 hw (by simp; omega) (bd a b (by omega) (by omega) (by omega) (by omega)) (acc := []) (Nat.zero_le _) ?_
  simp only [wSeq, wAsg, wOwn, wF, wLc, wSkip, wBrk, wCnt, wRet, wRetF, wRetN, wDrop, wIfS, wPar, wFor, wWh, wV, wApp, wExt, wSetIx, wAug, wVal, wLook, wC, wOp, wTst, wChain, wAnd, wOr, wNot, wAndV, wOrV, wNotV, wIf, wNil, wCons, wTup, wLst, wCall, wCB, wIsT, wiR1, wiR2, wiSq, wiEn, wiZip, gN, gT1, gT2, gT3, gT4, gT5, gT6, gT7, wYes, gAdd, DV.gSub, gMul, gMod, gDiv, gPow, gLt, gLe, gGt, gGe, gCmp, gEq, gNe, gIs, gIsN, DV.isNon, gIn, gNotIn, gIx, gSlc, wSlc, wNoP, wPart, gLen, gAbs, gInt, gMin2, gMax2, gAll, gAny, gSum, gTuple, wNeg, wRev, itemsOf, D.isTy, D.isHand, Sl.toD, big_0, big_1, big_2, big_3, big_4, big_5, big_6, big_7, big_8, big_9, big_10, big_11, big_12, draw_iff, own_ex, val_ex, wipeE, restE, Sl.keep, Option.getD_some, get_z, get_s, set_z, set_s, List.length_cons, List.length_nil, atI_0, atI_1, atI_2, atI_3, atI_4, ixN_5_0, ixN_5_1, ixN_5_2, ixN_5_3, ixN_5_4, D.bl.injEq, D.int.injEq, D.lst.injEq, D.tup.injEq, D.str.injEq, Sl.own.injEq, Sl.val.injEq, Option.some.injEq, exists_eq_left', exists_eq_left, exists_eq', exists_eq, or_true, true_or, or_false, false_or, CMul, CPow, natAbs_10, natAbs_2, Int.cast_ofNat_Int, Nat.reducePow, exists_and_left, exists_const, and_assoc, true_and, and_true, and_self, false_and, and_false, if_true, if_false, ite_true, ite_false, reduceCtorEq, decide_true, decide_false, decide_eq_true_eq, decide_eq_false_iff_not, Bool.not_true, Bool.not_false, Bool.false_eq_true, List.replicate_zero, List.replicate_succ, List.map_cons, List.map_nil, List.nil_append, List.cons_append, Nat.reduceSub, Nat.reduceAdd, Nat.reduceLeDiff, Nat.reduceLT, Int.reduceLT, Int.reduceLE, Int.reduceAdd, Int.reduceSub, Int.reduceMul, Int.reduceNeg, Int.reduceMod, Int.reduceDiv, Int.reducePow, Int.reduceToNat, okD_int, okD_bl, okD_lst, okD_tup, okD_non, okL_nil, okL_cons, okD_str, okL_int, eqD_int, eqD_bl, eqD_str, eqD_tup, eqD_lst, eqL_cons, eqL_nil, eqL_cn, eqL_nc, eqL_int, Bool.and_eq_true, Bool.or_eq_true, Bool.not_eq_true', Bool.and_false, Bool.false_and, Bool.or_false, Bool.false_or, Bool.or_true, Bool.true_or, Bool.and_true, Bool.true_and, Bool.and_self, wIsT2, wDct0, wLstOf, wRepF, wAsgH, DV.hN, hIx, hCons, hNil, hTup, wLM, gCnt, gIdx, gList, gSorted, wAppPop, wRaise0, wRaise1, wTry, wIsE, wAct, wFl, flD, okD_bl, forGo]
  refine sum_turn m1 m2 hw (by simp; omega) (bd b a (by omega) (by omega) (by omega) (by omega)) (acc := [_]) (show 1 ≤ 3 by decide) ?_
  simp only [wSeq, wAsg, wOwn, wF, wLc, wSkip, wBrk, wCnt, wRet, wRetF, wRetN, wDrop, wIfS, wPar, wFor, wWh, wV, wApp, wExt, wSetIx, wAug, wVal, wLook, wC, wOp, wTst, wChain, wAnd, wOr, wNot, wAndV, wOrV, wNotV, wIf, wNil, wCons, wTup, wLst, wCall, wCB, wIsT, wiR1, wiR2, wiSq, wiEn, wiZip, gN, gT1, gT2, gT3, gT4, gT5, gT6, gT7, wYes, gAdd, DV.gSub, gMul, gMod, gDiv, gPow, gLt, gLe, gGt, gGe, gCmp, gEq, gNe, gIs, gIsN, DV.isNon, gIn, gNotIn, gIx, gSlc, wSlc, wNoP, wPart, gLen, gAbs, gInt, gMin2, gMax2, gAll, gAny, gSum, gTuple, wNeg, wRev, itemsOf, D.isTy, D.isHand, Sl.toD, big_0, big_1, big_2, big_3, big_4, big_5, big_6, big_7, big_8, big_9, big_10, big_11, big_12, draw_iff, own_ex, val_ex, wipeE, restE, Sl.keep, Option.getD_some, get_z, get_s, set_z, set_s, List.length_cons, List.length_nil, atI_0, atI_1, atI_2, atI_3, atI_4, ixN_5_0, ixN_5_1, ixN_5_2, ixN_5_3, ixN_5_4, D.bl.injEq, D.int.injEq, D.lst.injEq, D.tup.injEq, D.str.injEq, Sl.own.injEq, Sl.val.injEq, Option.some.injEq, exists_eq_left', exists_eq_left, exists_eq', exists_eq, or_true, true_or, or_false, false_or, CMul, CPow, natAbs_10, natAbs_2, Int.cast_ofNat_Int, Nat.reducePow, exists_and_left, exists_const, and_assoc, true_and, and_true, and_self, false_and, and_false, if_true, if_false, ite_true, ite_false, reduceCtorEq, decide_true, decide_false, decide_eq_true_eq, decide_eq_false_iff_not, Bool.not_true, Bool.not_false, Bool.false_eq_true, List.replicate_zero, List.replicate_succ, List.map_cons, List.map_nil, List.nil_append, List.cons_append, Nat.reduceSub, Nat.reduceAdd, Nat.reduceLeDiff, Nat.reduceLT, Int.reduceLT, Int.reduceLE, Int.reduceAdd, Int.reduceSub, Int.reduceMul, Int.reduceNeg, Int.reduceMod, Int.reduceDiv, Int.reducePow, Int.reduceToNat, okD_int, okD_bl, okD_lst, okD_tup, okD_non, okL_nil, okL_cons, okD_str, okL_int, eqD_int, eqD_bl, eqD_str, eqD_tup, eqD_lst, eqL_cons, eqL_nil, eqL_cn, eqL_nc, eqL_int, Bool.and_eq_true, Bool.or_eq_true, Bool.not_eq_true', Bool.and_false, Bool.false_and, Bool.or_false, Bool.false_or, Bool.or_true, Bool.true_or, Bool.and_true, Bool.true_and, Bool.and_self, wIsT2, wDct0, wLstOf, wRepF, wAsgH, DV.hN, hIx, hCons, hNil, hTup, wLM, gCnt, gIdx, gList, gSorted, wAppPop, wRaise0, wRaise1, wTry, wIsE, wAct, wFl, flD, okD_bl, forGo]
  unfold B__law_is_right_21
  simp only [wSeq, wAsg, wOwn, wF, wLc, wSkip, wBrk, wCnt, wRet, wRetF, wRetN, wDrop, wIfS, wPar, wFor, wWh, wV, wApp, wExt, wSetIx, wAug, wVal, wLook, wC, wOp, wTst, wChain, wAnd, wOr, wNot, wAndV, wOrV, wNotV, wIf, wNil, wCons, wTup, wLst, wCall, wCB, wIsT, wiR1, wiR2, wiSq, wiEn, wiZip, gN, gT1, gT2, gT3, gT4, gT5, gT6, gT7, wYes, gAdd, DV.gSub, gMul, gMod, gDiv, gPow, gLt, gLe, gGt, gGe, gCmp, gEq, gNe, gIs, gIsN, DV.isNon, gIn, gNotIn, gIx, gSlc, wSlc, wNoP, wPart, gLen, gAbs, gInt, gMin2, gMax2, gAll, gAny, gSum, gTuple, wNeg, wRev, itemsOf, D.isTy, D.isHand, Sl.toD, big_0, big_1, big_2, big_3, big_4, big_5, big_6, big_7, big_8, big_9, big_10, big_11, big_12, draw_iff, own_ex, val_ex, wipeE, restE, Sl.keep, Option.getD_some, get_z, get_s, set_z, set_s, List.length_cons, List.length_nil, atI_0, atI_1, atI_2, atI_3, atI_4, ixN_5_0, ixN_5_1, ixN_5_2, ixN_5_3, ixN_5_4, D.bl.injEq, D.int.injEq, D.lst.injEq, D.tup.injEq, D.str.injEq, Sl.own.injEq, Sl.val.injEq, Option.some.injEq, exists_eq_left', exists_eq_left, exists_eq', exists_eq, or_true, true_or, or_false, false_or, CMul, CPow, natAbs_10, natAbs_2, Int.cast_ofNat_Int, Nat.reducePow, exists_and_left, exists_const, and_assoc, true_and, and_true, and_self, false_and, and_false, if_true, if_false, ite_true, ite_false, reduceCtorEq, decide_true, decide_false, decide_eq_true_eq, decide_eq_false_iff_not, Bool.not_true, Bool.not_false, Bool.false_eq_true, List.replicate_zero, List.replicate_succ, List.map_cons, List.map_nil, List.nil_append, List.cons_append, Nat.reduceSub, Nat.reduceAdd, Nat.reduceLeDiff, Nat.reduceLT, Int.reduceLT, Int.reduceLE, Int.reduceAdd, Int.reduceSub, Int.reduceMul, Int.reduceNeg, Int.reduceMod, Int.reduceDiv, Int.reducePow, Int.reduceToNat, okD_int, okD_bl, okD_lst, okD_tup, okD_non, okL_nil, okL_cons, okD_str, okL_int, eqD_int, eqD_bl, eqD_str, eqD_tup, eqD_lst, eqL_cons, eqL_nil, eqL_cn, eqL_nc, eqL_int, Bool.and_eq_true, Bool.or_eq_true, Bool.not_eq_true', Bool.and_false, Bool.false_and, Bool.or_false, Bool.false_or, Bool.or_true, Bool.true_or, Bool.and_true, Bool.true_and, Bool.and_self, wIsT2, wDct0, wLstOf, wRepF, wAsgH, DV.hN, hIx, hCons, hNil, hTup, wLM, gCnt, gIdx, gList, gSorted, wAppPop, wRaise0, wRaise1, wTry, wIsE, wAct, wFl, flD, okD_bl, key]
  exact h2 _
end
end Law

set_option Elab.async false
set_option linter.all false
set_option maxRecDepth 100000
namespace Law
open PySem PySem.Spec PyProof.Rows L2 DV
section
variable {Q : D → Prop} {E : Er → Prop}
theorem l14 {s m : Int} (c : Sm s m) {ws : List Int} (hw : Ws m ws) {k : Nat} (hk : k ≤ 24) {s5 s6 s7 s9 s10 s11 s12 s13 : Sl} {P : Post} (h : ∀ e, P.rt (.bl true) e) :
    B__law_is_right_14 [.val .hand, .val (.int s), .val (.int m), .val (.tup (ws.map D.int)), .val (.int k), s5, s6, s7, .val (least s m (enumI 0 (gaps ws k))), s9, s10, s11, s12, s13, .no, .no] P := by
  unfold B__law_is_right_14
  rcases least_cases s m (enumI 0 (gaps ws k)) with e | ⟨p, w, a, b, hm, a1, a2, b1, b2, ne, hz, e⟩
  · simp only [wSeq, wAsg, wOwn, wF, wLc, wSkip, wBrk, wCnt, wRet, wRetF, wRetN, wDrop, wIfS, wPar, wFor, wWh, wV, wApp, wExt, wSetIx, wAug, wVal, wLook, wC, wOp, wTst, wChain, wAnd, wOr, wNot, wAndV, wOrV, wNotV, wIf, wNil, wCons, wTup, wLst, wCall, wCB, wIsT, wiR1, wiR2, wiSq, wiEn, wiZip, gN, gT1, gT2, gT3, gT4, gT5, gT6, gT7, wYes, gAdd, DV.gSub, gMul, gMod, gDiv, gPow, gLt, gLe, gGt, gGe, gCmp, gEq, gNe, gIs, gIsN, DV.isNon, gIn, gNotIn, gIx, gSlc, wSlc, wNoP, wPart, gLen, gAbs, gInt, gMin2, gMax2, gAll, gAny, gSum, gTuple, wNeg, wRev, itemsOf, D.isTy, D.isHand, Sl.toD, big_0, big_1, big_2, big_3, big_4, big_5, big_6, big_7, big_8, big_9, big_10, big_11, big_12, draw_iff, own_ex, val_ex, wipeE, restE, Sl.keep, Option.getD_some, get_z, get_s, set_z, set_s, List.length_cons, List.length_nil, atI_0, atI_1, atI_2, atI_3, atI_4, ixN_5_0, ixN_5_1, ixN_5_2, ixN_5_3, ixN_5_4, D.bl.injEq, D.int.injEq, D.lst.injEq, D.tup.injEq, D.str.injEq, Sl.own.injEq, Sl.val.injEq, Option.some.injEq, exists_eq_left', exists_eq_left, exists_eq', exists_eq, or_true, true_or, or_false, false_or, CMul, CPow, natAbs_10, natAbs_2, Int.cast_ofNat_Int, Nat.reducePow, exists_and_left, exists_const, and_assoc, true_and, and_true, and_self, false_and, and_false, if_true, if_false, ite_true, ite_false, reduceCtorEq, decide_true, decide_false, decide_eq_true_eq, decide_eq_false_iff_not, Bool.not_true, Bool.not_false, Bool.false_eq_true, List.replicate_zero, List.replicate_succ, List.map_cons, List.map_nil, List.nil_append, List.cons_append, Nat.reduceSub, Nat.reduceAdd, Nat.reduceLeDiff, Nat.reduceLT, Int.reduceLT, Int.reduceLE, Int.reduceAdd, Int.reduceSub, Int.reduceMul, Int.reduceNeg, Int.reduceMod, Int.reduceDiv, Int.reducePow, Int.reduceToNat, okD_int, okD_bl, okD_lst, okD_tup, okD_non, okL_nil, okL_cons, okD_str, okL_int, eqD_int, eqD_bl, eqD_str, eqD_tup, eqD_lst, eqL_cons, eqL_nil, eqL_cn, eqL_nc, eqL_int, Bool.and_eq_true, Bool.or_eq_true, Bool.not_eq_true', Bool.and_false, Bool.false_and, Bool.or_false, Bool.false_or, Bool.or_true, Bool.true_or, Bool.and_true, Bool.true_and, Bool.and_self, wIsT2, wDct0, wLstOf, wRepF, wAsgH, DV.hN, hIx, hCons, hNil, hTup, wLM, gCnt, gIdx, gList, gSorted, wAppPop, wRaise0, wRaise1, wTry, wIsE, wAct, wFl, flD, okD_bl, e, ok_s, ok_pl, ne_sp]
    exact l23 h
  · rw [enum_gaps] at hm
    obtain ⟨p', hp', e2⟩ := List.mem_map.mp hm
    rw [mem_rangeI] at hp'
    cases e2
    obtain ⟨p, rfl⟩ := Int.eq_ofNat_of_zero_le hp'.1
    simp only [wSeq, wAsg, wOwn, wF, wLc, wSkip, wBrk, wCnt, wRet, wRetF, wRetN, wDrop, wIfS, wPar, wFor, wWh, wV, wApp, wExt, wSetIx, wAug, wVal, wLook, wC, wOp, wTst, wChain, wAnd, wOr, wNot, wAndV, wOrV, wNotV, wIf, wNil, wCons, wTup, wLst, wCall, wCB, wIsT, wiR1, wiR2, wiSq, wiEn, wiZip, gN, gT1, gT2, gT3, gT4, gT5, gT6, gT7, wYes, gAdd, DV.gSub, gMul, gMod, gDiv, gPow, gLt, gLe, gGt, gGe, gCmp, gEq, gNe, gIs, gIsN, DV.isNon, gIn, gNotIn, gIx, gSlc, wSlc, wNoP, wPart, gLen, gAbs, gInt, gMin2, gMax2, gAll, gAny, gSum, gTuple, wNeg, wRev, itemsOf, D.isTy, D.isHand, Sl.toD, big_0, big_1, big_2, big_3, big_4, big_5, big_6, big_7, big_8, big_9, big_10, big_11, big_12, draw_iff, own_ex, val_ex, wipeE, restE, Sl.keep, Option.getD_some, get_z, get_s, set_z, set_s, List.length_cons, List.length_nil, atI_0, atI_1, atI_2, atI_3, atI_4, ixN_5_0, ixN_5_1, ixN_5_2, ixN_5_3, ixN_5_4, D.bl.injEq, D.int.injEq, D.lst.injEq, D.tup.injEq, D.str.injEq, Sl.own.injEq, Sl.val.injEq, Option.some.injEq, exists_eq_left', exists_eq_left, exists_eq', exists_eq, or_true, true_or, or_false, false_or, CMul, CPow, natAbs_10, natAbs_2, Int.cast_ofNat_Int, Nat.reducePow, exists_and_left, exists_const, and_assoc, true_and, and_true, and_self, false_and, and_false, if_true, if_false, ite_true, ite_false, reduceCtorEq, decide_true, decide_false, decide_eq_true_eq, decide_eq_false_iff_not, Bool.not_true, Bool.not_false, Bool.false_eq_true, List.replicate_zero, List.replicate_succ, List.map_cons, List.map_nil, List.nil_append, List.cons_append, Nat.reduceSub, Nat.reduceAdd, Nat.reduceLeDiff, Nat.reduceLT, Int.reduceLT, Int.reduceLE, Int.reduceAdd, Int.reduceSub, Int.reduceMul, Int.reduceNeg, Int.reduceMod, Int.reduceDiv, Int.reducePow, Int.reduceToNat, okD_int, okD_bl, okD_lst, okD_tup, okD_non, okL_nil, okL_cons, okD_str, okL_int, eqD_int, eqD_bl, eqD_str, eqD_tup, eqD_lst, eqL_cons, eqL_nil, eqL_cn, eqL_nc, eqL_int, Bool.and_eq_true, Bool.or_eq_true, Bool.not_eq_true', Bool.and_false, Bool.false_and, Bool.or_false, Bool.false_or, Bool.or_true, Bool.true_or, Bool.and_true, Bool.true_and, Bool.and_self, wIsT2, wDct0, wLstOf, wRepF, wAsgH, DV.hN, hIx, hCons, hNil, hTup, wLM, gCnt, gIdx, gList, gSorted, wAppPop, wRaise0, wRaise1, wTry, wIsE, wAct, wFl, flD, okD_bl, e, ok_s, ok_pl]
    exact l15 c hw hk (by omega) a1 a2 b1 b2 hz h fun e => l23 h
theorem l8 {s m : Int} (c : Sm s m) {ws : List Int} (hw : Ws m ws) {k : Nat} (hk0 : 1 ≤ k) (hk : k ≤ 24) {s5 s6 s7 s8 s9 s10 s11 s12 s13 : Sl} {P : Post} (h : ∀ e, P.rt (.bl true) e) :
    B__law_is_right_8 [.val .hand, .val (.int s), .val (.int m), .val (.tup (ws.map D.int)), .val (.int k), s5, s6, s7, s8, s9, s10, s11, s12, s13, .no, .no] P := by
  have ⟨s1, s2, m1, m2⟩ := c
  have l1 := hw.l1
  unfold B__law_is_right_8
  (try simp only [wSeq, wAsg, wOwn, wF, wLc, wSkip, wBrk, wCnt, wRet, wRetF, wRetN, wDrop, wIfS, wPar, wFor, wWh, wV, wApp, wExt, wSetIx, wAug, wVal, wLook, wC, wOp, wTst, wChain, wAnd, wOr, wNot, wAndV, wOrV, wNotV, wIf, wNil, wCons, wTup, wLst, wCall, wCB, wIsT, wiR1, wiR2, wiSq, wiEn, wiZip, gN, gT1, gT2, gT3, gT4, gT5, gT6, gT7, wYes, gAdd, DV.gSub, gMul, gMod, gDiv, gPow, gLt, gLe, gGt, gGe, gCmp, gEq, gNe, gIs, gIsN, DV.isNon, gIn, gNotIn, gIx, gSlc, wSlc, wNoP, wPart, gLen, gAbs, gInt, gMin2, gMax2, gAll, gAny, gSum, gTuple, wNeg, wRev, itemsOf, D.isTy, D.isHand, Sl.toD, big_0, big_1, big_2, big_3, big_4, big_5, big_6, big_7, big_8, big_9, big_10, big_11, big_12, draw_iff, own_ex, val_ex, wipeE, restE, Sl.keep, Option.getD_some, get_z, get_s, set_z, set_s, List.length_cons, List.length_nil, atI_0, atI_1, atI_2, atI_3, atI_4, ixN_5_0, ixN_5_1, ixN_5_2, ixN_5_3, ixN_5_4, D.bl.injEq, D.int.injEq, D.lst.injEq, D.tup.injEq, D.str.injEq, Sl.own.injEq, Sl.val.injEq, Option.some.injEq, exists_eq_left', exists_eq_left, exists_eq', exists_eq, or_true, true_or, or_false, false_or, CMul, CPow, natAbs_10, natAbs_2, Int.cast_ofNat_Int, Nat.reducePow, exists_and_left, exists_const, and_assoc, true_and, and_true, and_self, false_and, and_false, if_true, if_false, ite_true, ite_false, reduceCtorEq, decide_true, decide_false, decide_eq_true_eq, decide_eq_false_iff_not, Bool.not_true, Bool.not_false, Bool.false_eq_true, List.replicate_zero, List.replicate_succ, List.map_cons, List.map_nil, List.nil_append, List.cons_append, Nat.reduceSub, Nat.reduceAdd, Nat.reduceLeDiff, Nat.reduceLT, Int.reduceLT, Int.reduceLE, Int.reduceAdd, Int.reduceSub, Int.reduceMul, Int.reduceNeg, Int.reduceMod, Int.reduceDiv, Int.reducePow, Int.reduceToNat, okD_int, okD_bl, okD_lst, okD_tup, okD_non, okL_nil, okL_cons, okD_str, okL_int, eqD_int, eqD_bl, eqD_str, eqD_tup, eqD_lst, eqL_cons, eqL_nil, eqL_cn, eqL_nc, eqL_int, Bool.and_eq_true, Bool.or_eq_true, Bool.not_eq_true', Bool.and_false, Bool.false_and, Bool.or_false, Bool.false_or, Bool.or_true, Bool.true_or, Bool.and_true, Bool.true_and, Bool.and_self, wIsT2, wDct0, wLstOf, wRepF, wAsgH, DV.hN, hIx, hCons, hNil, hTup, wLM, gCnt, gIdx, gList, gSorted, wAppPop, wRaise0, wRaise1, wTry, wIsE, wAct, wFl, flD, okD_bl])
  intro q
  unfold B__law_is_right_9
  (try simp only [wSeq, wAsg, wOwn, wF, wLc, wSkip, wBrk, wCnt, wRet, wRetF, wRetN, wDrop, wIfS, wPar, wFor, wWh, wV, wApp, wExt, wSetIx, wAug, wVal, wLook, wC, wOp, wTst, wChain, wAnd, wOr, wNot, wAndV, wOrV, wNotV, wIf, wNil, wCons, wTup, wLst, wCall, wCB, wIsT, wiR1, wiR2, wiSq, wiEn, wiZip, gN, gT1, gT2, gT3, gT4, gT5, gT6, gT7, wYes, gAdd, DV.gSub, gMul, gMod, gDiv, gPow, gLt, gLe, gGt, gGe, gCmp, gEq, gNe, gIs, gIsN, DV.isNon, gIn, gNotIn, gIx, gSlc, wSlc, wNoP, wPart, gLen, gAbs, gInt, gMin2, gMax2, gAll, gAny, gSum, gTuple, wNeg, wRev, itemsOf, D.isTy, D.isHand, Sl.toD, big_0, big_1, big_2, big_3, big_4, big_5, big_6, big_7, big_8, big_9, big_10, big_11, big_12, draw_iff, own_ex, val_ex, wipeE, restE, Sl.keep, Option.getD_some, get_z, get_s, set_z, set_s, List.length_cons, List.length_nil, atI_0, atI_1, atI_2, atI_3, atI_4, ixN_5_0, ixN_5_1, ixN_5_2, ixN_5_3, ixN_5_4, D.bl.injEq, D.int.injEq, D.lst.injEq, D.tup.injEq, D.str.injEq, Sl.own.injEq, Sl.val.injEq, Option.some.injEq, exists_eq_left', exists_eq_left, exists_eq', exists_eq, or_true, true_or, or_false, false_or, CMul, CPow, natAbs_10, natAbs_2, Int.cast_ofNat_Int, Nat.reducePow, exists_and_left, exists_const, and_assoc, true_and, and_true, and_self, false_and, and_false, if_true, if_false, ite_true, ite_false, reduceCtorEq, decide_true, decide_false, decide_eq_true_eq, decide_eq_false_iff_not, Bool.not_true, Bool.not_false, Bool.false_eq_true, List.replicate_zero, List.replicate_succ, List.map_cons, List.map_nil, List.nil_append, List.cons_append, Nat.reduceSub, Nat.reduceAdd, Nat.reduceLeDiff, Nat.reduceLT, Int.reduceLT, Int.reduceLE, Int.reduceAdd, Int.reduceSub, Int.reduceMul, Int.reduceNeg, Int.reduceMod, Int.reduceDiv, Int.reducePow, Int.reduceToNat, okD_int, okD_bl, okD_lst, okD_tup, okD_non, okL_nil, okL_cons, okD_str, okL_int, eqD_int, eqD_bl, eqD_str, eqD_tup, eqD_lst, eqL_cons, eqL_nil, eqL_cn, eqL_nc, eqL_int, Bool.and_eq_true, Bool.or_eq_true, Bool.not_eq_true', Bool.and_false, Bool.false_and, Bool.or_false, Bool.false_or, Bool.or_true, Bool.true_or, Bool.and_true, Bool.true_and, Bool.and_self, wIsT2, wDct0, wLstOf, wRepF, wAsgH, DV.hN, hIx, hCons, hNil, hTup, wLM, gCnt, gIdx, gList, gSorted, wAppPop, wRaise0, wRaise1, wTry, wIsE, wAct, wFl, flD, okD_bl])
  refine ⟨by omega, by omega, ?_⟩
  refine for_range (fun j env => j ≤ ((k : Int) - 1 - 0).toNat ∧ ∃ s7, env = [.val .hand, .val (.int s), .val (.int m), .val (.tup (ws.map D.int)), .val (.int k), s5, .own q (((rangeI 0 j).map (gapAt ws)).map D.int), s7, s8, s9, s10, s11, s12, s13, .no, .no]) ⟨by omega, _, rfl⟩ (fun env hI => ?_) (fun j env hj hI nx hn => ?_)
  · obtain ⟨_, s7, rfl⟩ := hI
    have e1 : (rangeI 0 ((((k : Int) - 1 - 0).toNat : Nat) : Int)).map (gapAt ws) = gaps ws k := by
      unfold gaps
      rw [show ((((k : Int) - 1 - 0).toNat : Nat) : Int) = (k : Int) - 1 by omega]
    rw [e1]
    unfold B__law_is_right_11
    (try simp only [wSeq, wAsg, wOwn, wF, wLc, wSkip, wBrk, wCnt, wRet, wRetF, wRetN, wDrop, wIfS, wPar, wFor, wWh, wV, wApp, wExt, wSetIx, wAug, wVal, wLook, wC, wOp, wTst, wChain, wAnd, wOr, wNot, wAndV, wOrV, wNotV, wIf, wNil, wCons, wTup, wLst, wCall, wCB, wIsT, wiR1, wiR2, wiSq, wiEn, wiZip, gN, gT1, gT2, gT3, gT4, gT5, gT6, gT7, wYes, gAdd, DV.gSub, gMul, gMod, gDiv, gPow, gLt, gLe, gGt, gGe, gCmp, gEq, gNe, gIs, gIsN, DV.isNon, gIn, gNotIn, gIx, gSlc, wSlc, wNoP, wPart, gLen, gAbs, gInt, gMin2, gMax2, gAll, gAny, gSum, gTuple, wNeg, wRev, itemsOf, D.isTy, D.isHand, Sl.toD, big_0, big_1, big_2, big_3, big_4, big_5, big_6, big_7, big_8, big_9, big_10, big_11, big_12, draw_iff, own_ex, val_ex, wipeE, restE, Sl.keep, Option.getD_some, get_z, get_s, set_z, set_s, List.length_cons, List.length_nil, atI_0, atI_1, atI_2, atI_3, atI_4, ixN_5_0, ixN_5_1, ixN_5_2, ixN_5_3, ixN_5_4, D.bl.injEq, D.int.injEq, D.lst.injEq, D.tup.injEq, D.str.injEq, Sl.own.injEq, Sl.val.injEq, Option.some.injEq, exists_eq_left', exists_eq_left, exists_eq', exists_eq, or_true, true_or, or_false, false_or, CMul, CPow, natAbs_10, natAbs_2, Int.cast_ofNat_Int, Nat.reducePow, exists_and_left, exists_const, and_assoc, true_and, and_true, and_self, false_and, and_false, if_true, if_false, ite_true, ite_false, reduceCtorEq, decide_true, decide_false, decide_eq_true_eq, decide_eq_false_iff_not, Bool.not_true, Bool.not_false, Bool.false_eq_true, List.replicate_zero, List.replicate_succ, List.map_cons, List.map_nil, List.nil_append, List.cons_append, Nat.reduceSub, Nat.reduceAdd, Nat.reduceLeDiff, Nat.reduceLT, Int.reduceLT, Int.reduceLE, Int.reduceAdd, Int.reduceSub, Int.reduceMul, Int.reduceNeg, Int.reduceMod, Int.reduceDiv, Int.reducePow, Int.reduceToNat, okD_int, okD_bl, okD_lst, okD_tup, okD_non, okL_nil, okL_cons, okD_str, okL_int, eqD_int, eqD_bl, eqD_str, eqD_tup, eqD_lst, eqL_cons, eqL_nil, eqL_cn, eqL_nc, eqL_int, Bool.and_eq_true, Bool.or_eq_true, Bool.not_eq_true', Bool.and_false, Bool.false_and, Bool.or_false, Bool.false_or, Bool.or_true, Bool.true_or, Bool.and_true, Bool.true_and, Bool.and_self, wIsT2, wDct0, wLstOf, wRepF, wAsgH, DV.hN, hIx, hCons, hNil, hTup, wLM, gCnt, gIdx, gList, gSorted, wAppPop, wRaise0, wRaise1, wTry, wIsE, wAct, wFl, flD, okD_bl])
    refine sp_swap_told c hw (by omega) (by omega) ?_
    (try simp only [wSeq, wAsg, wOwn, wF, wLc, wSkip, wBrk, wCnt, wRet, wRetF, wRetN, wDrop, wIfS, wPar, wFor, wWh, wV, wApp, wExt, wSetIx, wAug, wVal, wLook, wC, wOp, wTst, wChain, wAnd, wOr, wNot, wAndV, wOrV, wNotV, wIf, wNil, wCons, wTup, wLst, wCall, wCB, wIsT, wiR1, wiR2, wiSq, wiEn, wiZip, gN, gT1, gT2, gT3, gT4, gT5, gT6, gT7, wYes, gAdd, DV.gSub, gMul, gMod, gDiv, gPow, gLt, gLe, gGt, gGe, gCmp, gEq, gNe, gIs, gIsN, DV.isNon, gIn, gNotIn, gIx, gSlc, wSlc, wNoP, wPart, gLen, gAbs, gInt, gMin2, gMax2, gAll, gAny, gSum, gTuple, wNeg, wRev, itemsOf, D.isTy, D.isHand, Sl.toD, big_0, big_1, big_2, big_3, big_4, big_5, big_6, big_7, big_8, big_9, big_10, big_11, big_12, draw_iff, own_ex, val_ex, wipeE, restE, Sl.keep, Option.getD_some, get_z, get_s, set_z, set_s, List.length_cons, List.length_nil, atI_0, atI_1, atI_2, atI_3, atI_4, ixN_5_0, ixN_5_1, ixN_5_2, ixN_5_3, ixN_5_4, D.bl.injEq, D.int.injEq, D.lst.injEq, D.tup.injEq, D.str.injEq, Sl.own.injEq, Sl.val.injEq, Option.some.injEq, exists_eq_left', exists_eq_left, exists_eq', exists_eq, or_true, true_or, or_false, false_or, CMul, CPow, natAbs_10, natAbs_2, Int.cast_ofNat_Int, Nat.reducePow, exists_and_left, exists_const, and_assoc, true_and, and_true, and_self, false_and, and_false, if_true, if_false, ite_true, ite_false, reduceCtorEq, decide_true, decide_false, decide_eq_true_eq, decide_eq_false_iff_not, Bool.not_true, Bool.not_false, Bool.false_eq_true, List.replicate_zero, List.replicate_succ, List.map_cons, List.map_nil, List.nil_append, List.cons_append, Nat.reduceSub, Nat.reduceAdd, Nat.reduceLeDiff, Nat.reduceLT, Int.reduceLT, Int.reduceLE, Int.reduceAdd, Int.reduceSub, Int.reduceMul, Int.reduceNeg, Int.reduceMod, Int.reduceDiv, Int.reducePow, Int.reduceToNat, okD_int, okD_bl, okD_lst, okD_tup, okD_non, okL_nil, okL_cons, okD_str, okL_int, eqD_int, eqD_bl, eqD_str, eqD_tup, eqD_lst, eqL_cons, eqL_nil, eqL_cn, eqL_nc, eqL_int, Bool.and_eq_true, Bool.or_eq_true, Bool.not_eq_true', Bool.and_false, Bool.false_and, Bool.or_false, Bool.false_or, Bool.or_true, Bool.true_or, Bool.and_true, Bool.true_and, Bool.and_self, wIsT2, wDct0, wLstOf, wRepF, wAsgH, DV.hN, hIx, hCons, hNil, hTup, wLM, gCnt, gIdx, gList, gSorted, wAppPop, wRaise0, wRaise1, wTry, wIsE, wAct, wFl, flD, okD_bl])
    unfold B__law_is_right_12
    (try simp only [wSeq, wAsg, wOwn, wF, wLc, wSkip, wBrk, wCnt, wRet, wRetF, wRetN, wDrop, wIfS, wPar, wFor, wWh, wV, wApp, wExt, wSetIx, wAug, wVal, wLook, wC, wOp, wTst, wChain, wAnd, wOr, wNot, wAndV, wOrV, wNotV, wIf, wNil, wCons, wTup, wLst, wCall, wCB, wIsT, wiR1, wiR2, wiSq, wiEn, wiZip, gN, gT1, gT2, gT3, gT4, gT5, gT6, gT7, wYes, gAdd, DV.gSub, gMul, gMod, gDiv, gPow, gLt, gLe, gGt, gGe, gCmp, gEq, gNe, gIs, gIsN, DV.isNon, gIn, gNotIn, gIx, gSlc, wSlc, wNoP, wPart, gLen, gAbs, gInt, gMin2, gMax2, gAll, gAny, gSum, gTuple, wNeg, wRev, itemsOf, D.isTy, D.isHand, Sl.toD, big_0, big_1, big_2, big_3, big_4, big_5, big_6, big_7, big_8, big_9, big_10, big_11, big_12, draw_iff, own_ex, val_ex, wipeE, restE, Sl.keep, Option.getD_some, get_z, get_s, set_z, set_s, List.length_cons, List.length_nil, atI_0, atI_1, atI_2, atI_3, atI_4, ixN_5_0, ixN_5_1, ixN_5_2, ixN_5_3, ixN_5_4, D.bl.injEq, D.int.injEq, D.lst.injEq, D.tup.injEq, D.str.injEq, Sl.own.injEq, Sl.val.injEq, Option.some.injEq, exists_eq_left', exists_eq_left, exists_eq', exists_eq, or_true, true_or, or_false, false_or, CMul, CPow, natAbs_10, natAbs_2, Int.cast_ofNat_Int, Nat.reducePow, exists_and_left, exists_const, and_assoc, true_and, and_true, and_self, false_and, and_false, if_true, if_false, ite_true, ite_false, reduceCtorEq, decide_true, decide_false, decide_eq_true_eq, decide_eq_false_iff_not, Bool.not_true, Bool.not_false, Bool.false_eq_true, List.replicate_zero, List.replicate_succ, List.map_cons, List.map_nil, List.nil_append, List.cons_append, Nat.reduceSub, Nat.reduceAdd, Nat.reduceLeDiff, Nat.reduceLT, Int.reduceLT, Int.reduceLE, Int.reduceAdd, Int.reduceSub, Int.reduceMul, Int.reduceNeg, Int.reduceMod, Int.reduceDiv, Int.reducePow, Int.reduceToNat, okD_int, okD_bl, okD_lst, okD_tup, okD_non, okL_nil, okL_cons, okD_str, okL_int, eqD_int, eqD_bl, eqD_str, eqD_tup, eqD_lst, eqL_cons, eqL_nil, eqL_cn, eqL_nc, eqL_int, Bool.and_eq_true, Bool.or_eq_true, Bool.not_eq_true', Bool.and_false, Bool.false_and, Bool.or_false, Bool.false_or, Bool.or_true, Bool.true_or, Bool.and_true, Bool.true_and, Bool.and_self, wIsT2, wDct0, wLstOf, wRepF, wAsgH, DV.hN, hIx, hCons, hNil, hTup, wLM, gCnt, gIdx, gList, gSorted, wAppPop, wRaise0, wRaise1, wTry, wIsE, wAct, wFl, flD, okD_bl])
    refine sp_law_least c (ws := gaps ws k) (.inr rfl) (fun w hw2 => ?_) ?_
    · unfold gaps at hw2
      obtain ⟨p, hp, rfl⟩ := List.mem_map.mp hw2
      rw [mem_rangeI] at hp
      have := gap_bd hw hp.1
      omega
    · (try simp only [wSeq, wAsg, wOwn, wF, wLc, wSkip, wBrk, wCnt, wRet, wRetF, wRetN, wDrop, wIfS, wPar, wFor, wWh, wV, wApp, wExt, wSetIx, wAug, wVal, wLook, wC, wOp, wTst, wChain, wAnd, wOr, wNot, wAndV, wOrV, wNotV, wIf, wNil, wCons, wTup, wLst, wCall, wCB, wIsT, wiR1, wiR2, wiSq, wiEn, wiZip, gN, gT1, gT2, gT3, gT4, gT5, gT6, gT7, wYes, gAdd, DV.gSub, gMul, gMod, gDiv, gPow, gLt, gLe, gGt, gGe, gCmp, gEq, gNe, gIs, gIsN, DV.isNon, gIn, gNotIn, gIx, gSlc, wSlc, wNoP, wPart, gLen, gAbs, gInt, gMin2, gMax2, gAll, gAny, gSum, gTuple, wNeg, wRev, itemsOf, D.isTy, D.isHand, Sl.toD, big_0, big_1, big_2, big_3, big_4, big_5, big_6, big_7, big_8, big_9, big_10, big_11, big_12, draw_iff, own_ex, val_ex, wipeE, restE, Sl.keep, Option.getD_some, get_z, get_s, set_z, set_s, List.length_cons, List.length_nil, atI_0, atI_1, atI_2, atI_3, atI_4, ixN_5_0, ixN_5_1, ixN_5_2, ixN_5_3, ixN_5_4, D.bl.injEq, D.int.injEq, D.lst.injEq, D.tup.injEq, D.str.injEq, Sl.own.injEq, Sl.val.injEq, Option.some.injEq, exists_eq_left', exists_eq_left, exists_eq', exists_eq, or_true, true_or, or_false, false_or, CMul, CPow, natAbs_10, natAbs_2, Int.cast_ofNat_Int, Nat.reducePow, exists_and_left, exists_const, and_assoc, true_and, and_true, and_self, false_and, and_false, if_true, if_false, ite_true, ite_false, reduceCtorEq, decide_true, decide_false, decide_eq_true_eq, decide_eq_false_iff_not, Bool.not_true, Bool.not_false, Bool.false_eq_true, List.replicate_zero, List.replicate_succ, List.map_cons, List.map_nil, List.nil_append, List.cons_append, Nat.reduceSub, Nat.reduceAdd, Nat.reduceLeDiff, Nat.reduceLT, Int.reduceLT, Int.reduceLE, Int.reduceAdd, Int.reduceSub, Int.reduceMul, Int.reduceNeg, Int.reduceMod, Int.reduceDiv, Int.reducePow, Int.reduceToNat, okD_int, okD_bl, okD_lst, okD_tup, okD_non, okL_nil, okL_cons, okD_str, okL_int, eqD_int, eqD_bl, eqD_str, eqD_tup, eqD_lst, eqL_cons, eqL_nil, eqL_cn, eqL_nc, eqL_int, Bool.and_eq_true, Bool.or_eq_true, Bool.not_eq_true', Bool.and_false, Bool.false_and, Bool.or_false, Bool.false_or, Bool.or_true, Bool.true_or, Bool.and_true, Bool.true_and, Bool.and_self, wIsT2, wDct0, wLstOf, wRepF, wAsgH, DV.hN, hIx, hCons, hNil, hTup, wLM, gCnt, gIdx, gList, gSorted, wAppPop, wRaise0, wRaise1, wTry, wIsE, wAct, wFl, flD, okD_bl])
      refine sp_law_is (isOk_mono ok_least) ?_
      (try simp only [wSeq, wAsg, wOwn, wF, wLc, wSkip, wBrk, wCnt, wRet, wRetF, wRetN, wDrop, wIfS, wPar, wFor, wWh, wV, wApp, wExt, wSetIx, wAug, wVal, wLook, wC, wOp, wTst, wChain, wAnd, wOr, wNot, wAndV, wOrV, wNotV, wIf, wNil, wCons, wTup, wLst, wCall, wCB, wIsT, wiR1, wiR2, wiSq, wiEn, wiZip, gN, gT1, gT2, gT3, gT4, gT5, gT6, gT7, wYes, gAdd, DV.gSub, gMul, gMod, gDiv, gPow, gLt, gLe, gGt, gGe, gCmp, gEq, gNe, gIs, gIsN, DV.isNon, gIn, gNotIn, gIx, gSlc, wSlc, wNoP, wPart, gLen, gAbs, gInt, gMin2, gMax2, gAll, gAny, gSum, gTuple, wNeg, wRev, itemsOf, D.isTy, D.isHand, Sl.toD, big_0, big_1, big_2, big_3, big_4, big_5, big_6, big_7, big_8, big_9, big_10, big_11, big_12, draw_iff, own_ex, val_ex, wipeE, restE, Sl.keep, Option.getD_some, get_z, get_s, set_z, set_s, List.length_cons, List.length_nil, atI_0, atI_1, atI_2, atI_3, atI_4, ixN_5_0, ixN_5_1, ixN_5_2, ixN_5_3, ixN_5_4, D.bl.injEq, D.int.injEq, D.lst.injEq, D.tup.injEq, D.str.injEq, Sl.own.injEq, Sl.val.injEq, Option.some.injEq, exists_eq_left', exists_eq_left, exists_eq', exists_eq, or_true, true_or, or_false, false_or, CMul, CPow, natAbs_10, natAbs_2, Int.cast_ofNat_Int, Nat.reducePow, exists_and_left, exists_const, and_assoc, true_and, and_true, and_self, false_and, and_false, if_true, if_false, ite_true, ite_false, reduceCtorEq, decide_true, decide_false, decide_eq_true_eq, decide_eq_false_iff_not, Bool.not_true, Bool.not_false, Bool.false_eq_true, List.replicate_zero, List.replicate_succ, List.map_cons, List.map_nil, List.nil_append, List.cons_append, Nat.reduceSub, Nat.reduceAdd, Nat.reduceLeDiff, Nat.reduceLT, Int.reduceLT, Int.reduceLE, Int.reduceAdd, Int.reduceSub, Int.reduceMul, Int.reduceNeg, Int.reduceMod, Int.reduceDiv, Int.reducePow, Int.reduceToNat, okD_int, okD_bl, okD_lst, okD_tup, okD_non, okL_nil, okL_cons, okD_str, okL_int, eqD_int, eqD_bl, eqD_str, eqD_tup, eqD_lst, eqL_cons, eqL_nil, eqL_cn, eqL_nc, eqL_int, Bool.and_eq_true, Bool.or_eq_true, Bool.not_eq_true', Bool.and_false, Bool.false_and, Bool.or_false, Bool.false_or, Bool.or_true, Bool.true_or, Bool.and_true, Bool.true_and, Bool.and_self, wIsT2, wDct0, wLstOf, wRepF, wAsgH, DV.hN, hIx, hCons, hNil, hTup, wLM, gCnt, gIdx, gList, gSorted, wAppPop, wRaise0, wRaise1, wTry, wIsE, wAct, wFl, flD, okD_bl])
      exact l14 c hw hk h
  · obtain ⟨hj2, s7, rfl⟩ := hI
    simp only [wSeq, wAsg, wOwn, wF, wLc, wSkip, wBrk, wCnt, wRet, wRetF, wRetN, wDrop, wIfS, wPar, wFor, wWh, wV, wApp, wExt, wSetIx, wAug, wVal, wLook, wC, wOp, wTst, wChain, wAnd, wOr, wNot, wAndV, wOrV, wNotV, wIf, wNil, wCons, wTup, wLst, wCall, wCB, wIsT, wiR1, wiR2, wiSq, wiEn, wiZip, gN, gT1, gT2, gT3, gT4, gT5, gT6, gT7, wYes, gAdd, DV.gSub, gMul, gMod, gDiv, gPow, gLt, gLe, gGt, gGe, gCmp, gEq, gNe, gIs, gIsN, DV.isNon, gIn, gNotIn, gIx, gSlc, wSlc, wNoP, wPart, gLen, gAbs, gInt, gMin2, gMax2, gAll, gAny, gSum, gTuple, wNeg, wRev, itemsOf, D.isTy, D.isHand, Sl.toD, big_0, big_1, big_2, big_3, big_4, big_5, big_6, big_7, big_8, big_9, big_10, big_11, big_12, draw_iff, own_ex, val_ex, wipeE, restE, Sl.keep, Option.getD_some, get_z, get_s, set_z, set_s, List.length_cons, List.length_nil, atI_0, atI_1, atI_2, atI_3, atI_4, ixN_5_0, ixN_5_1, ixN_5_2, ixN_5_3, ixN_5_4, D.bl.injEq, D.int.injEq, D.lst.injEq, D.tup.injEq, D.str.injEq, Sl.own.injEq, Sl.val.injEq, Option.some.injEq, exists_eq_left', exists_eq_left, exists_eq', exists_eq, or_true, true_or, or_false, false_or, CMul, CPow, natAbs_10, natAbs_2, Int.cast_ofNat_Int, Nat.reducePow, exists_and_left, exists_const, and_assoc, true_and, and_true, and_self, false_and, and_false, if_true, if_false, ite_true, ite_false, reduceCtorEq, decide_true, decide_false, decide_eq_true_eq, decide_eq_false_iff_not, Bool.not_true, Bool.not_false, Bool.false_eq_true, List.replicate_zero, List.replicate_succ, List.map_cons, List.map_nil, List.nil_append, List.cons_append, Nat.reduceSub, Nat.reduceAdd, Nat.reduceLeDiff, Nat.reduceLT, Int.reduceLT, Int.reduceLE, Int.reduceAdd, Int.reduceSub, Int.reduceMul, Int.reduceNeg, Int.reduceMod, Int.reduceDiv, Int.reducePow, Int.reduceToNat, okD_int, okD_bl, okD_lst, okD_tup, okD_non, okL_nil, okL_cons, okD_str, okL_int, eqD_int, eqD_bl, eqD_str, eqD_tup, eqD_lst, eqL_cons, eqL_nil, eqL_cn, eqL_nc, eqL_int, Bool.and_eq_true, Bool.or_eq_true, Bool.not_eq_true', Bool.and_false, Bool.false_and, Bool.or_false, Bool.false_or, Bool.or_true, Bool.true_or, Bool.and_true, Bool.true_and, Bool.and_self, wIsT2, wDct0, wLstOf, wRepF, wAsgH, DV.hN, hIx, hCons, hNil, hTup, wLM, gCnt, gIdx, gList, gSorted, wAppPop, wRaise0, wRaise1, wTry, wIsE, wAct, wFl, flD, okD_bl, List.length_map, atW l1 (show (0 : Int) ≤ 0 + j by omega), atW l1 (show (0 : Int) ≤ 0 + j + 1 by omega)]
    refine ⟨by omega, by omega, by rw [rangeI_len]; unfold big; omega, hn _ ⟨by omega, .val (.int (0 + j)), ?_⟩⟩
    have e2 : rangeI 0 ((j + 1 : Nat) : Int) = rangeI 0 j ++ [(j : Int)] := by
      unfold rangeI
      rw [show ((((j + 1 : Nat) : Int)) - 0).toNat = j + 1 by omega, show ((j : Int) - 0).toNat = j by omega, List.range_succ, List.map_append]
      simp
    rw [e2, List.map_append, List.map_append]
    simp only [Int.zero_add]
    rfl
theorem l3 {s m : Int} (c : Sm s m) {ws : List Int} (hw : Ws m ws) {k : Nat} (hk0 : 1 ≤ k) (hk : k ≤ 24) {s5 s6 s7 s8 s9 s10 s11 s12 : Sl} {P : Post} (h : ∀ e, P.rt (.bl true) e) :
    B__law_is_right_3 [.val .hand, .val (.int s), .val (.int m), .val (.tup (ws.map D.int)), .val (.int k), s5, s6, s7, s8, s9, s10, s11, s12, .no, .no, .no] P := by
  have ⟨s1, s2, m1, m2⟩ := c
  have l1 := hw.l1
  have l2 := hw.l2
  unfold B__law_is_right_3
  (try simp only [wSeq, wAsg, wOwn, wF, wLc, wSkip, wBrk, wCnt, wRet, wRetF, wRetN, wDrop, wIfS, wPar, wFor, wWh, wV, wApp, wExt, wSetIx, wAug, wVal, wLook, wC, wOp, wTst, wChain, wAnd, wOr, wNot, wAndV, wOrV, wNotV, wIf, wNil, wCons, wTup, wLst, wCall, wCB, wIsT, wiR1, wiR2, wiSq, wiEn, wiZip, gN, gT1, gT2, gT3, gT4, gT5, gT6, gT7, wYes, gAdd, DV.gSub, gMul, gMod, gDiv, gPow, gLt, gLe, gGt, gGe, gCmp, gEq, gNe, gIs, gIsN, DV.isNon, gIn, gNotIn, gIx, gSlc, wSlc, wNoP, wPart, gLen, gAbs, gInt, gMin2, gMax2, gAll, gAny, gSum, gTuple, wNeg, wRev, itemsOf, D.isTy, D.isHand, Sl.toD, big_0, big_1, big_2, big_3, big_4, big_5, big_6, big_7, big_8, big_9, big_10, big_11, big_12, draw_iff, own_ex, val_ex, wipeE, restE, Sl.keep, Option.getD_some, get_z, get_s, set_z, set_s, List.length_cons, List.length_nil, atI_0, atI_1, atI_2, atI_3, atI_4, ixN_5_0, ixN_5_1, ixN_5_2, ixN_5_3, ixN_5_4, D.bl.injEq, D.int.injEq, D.lst.injEq, D.tup.injEq, D.str.injEq, Sl.own.injEq, Sl.val.injEq, Option.some.injEq, exists_eq_left', exists_eq_left, exists_eq', exists_eq, or_true, true_or, or_false, false_or, CMul, CPow, natAbs_10, natAbs_2, Int.cast_ofNat_Int, Nat.reducePow, exists_and_left, exists_const, and_assoc, true_and, and_true, and_self, false_and, and_false, if_true, if_false, ite_true, ite_false, reduceCtorEq, decide_true, decide_false, decide_eq_true_eq, decide_eq_false_iff_not, Bool.not_true, Bool.not_false, Bool.false_eq_true, List.replicate_zero, List.replicate_succ, List.map_cons, List.map_nil, List.nil_append, List.cons_append, Nat.reduceSub, Nat.reduceAdd, Nat.reduceLeDiff, Nat.reduceLT, Int.reduceLT, Int.reduceLE, Int.reduceAdd, Int.reduceSub, Int.reduceMul, Int.reduceNeg, Int.reduceMod, Int.reduceDiv, Int.reducePow, Int.reduceToNat, okD_int, okD_bl, okD_lst, okD_tup, okD_non, okL_nil, okL_cons, okD_str, okL_int, eqD_int, eqD_bl, eqD_str, eqD_tup, eqD_lst, eqL_cons, eqL_nil, eqL_cn, eqL_nc, eqL_int, Bool.and_eq_true, Bool.or_eq_true, Bool.not_eq_true', Bool.and_false, Bool.false_and, Bool.or_false, Bool.false_or, Bool.or_true, Bool.true_or, Bool.and_true, Bool.true_and, Bool.and_self, wIsT2, wDct0, wLstOf, wRepF, wAsgH, DV.hN, hIx, hCons, hNil, hTup, wLM, gCnt, gIdx, gList, gSorted, wAppPop, wRaise0, wRaise1, wTry, wIsE, wAct, wFl, flD, okD_bl])
  refine sp_law_least c (ws := ws) (.inl rfl) (fun w hw2 => ?_) ?_
  · have := hw.b _ hw2
    omega
  (try simp only [wSeq, wAsg, wOwn, wF, wLc, wSkip, wBrk, wCnt, wRet, wRetF, wRetN, wDrop, wIfS, wPar, wFor, wWh, wV, wApp, wExt, wSetIx, wAug, wVal, wLook, wC, wOp, wTst, wChain, wAnd, wOr, wNot, wAndV, wOrV, wNotV, wIf, wNil, wCons, wTup, wLst, wCall, wCB, wIsT, wiR1, wiR2, wiSq, wiEn, wiZip, gN, gT1, gT2, gT3, gT4, gT5, gT6, gT7, wYes, gAdd, DV.gSub, gMul, gMod, gDiv, gPow, gLt, gLe, gGt, gGe, gCmp, gEq, gNe, gIs, gIsN, DV.isNon, gIn, gNotIn, gIx, gSlc, wSlc, wNoP, wPart, gLen, gAbs, gInt, gMin2, gMax2, gAll, gAny, gSum, gTuple, wNeg, wRev, itemsOf, D.isTy, D.isHand, Sl.toD, big_0, big_1, big_2, big_3, big_4, big_5, big_6, big_7, big_8, big_9, big_10, big_11, big_12, draw_iff, own_ex, val_ex, wipeE, restE, Sl.keep, Option.getD_some, get_z, get_s, set_z, set_s, List.length_cons, List.length_nil, atI_0, atI_1, atI_2, atI_3, atI_4, ixN_5_0, ixN_5_1, ixN_5_2, ixN_5_3, ixN_5_4, D.bl.injEq, D.int.injEq, D.lst.injEq, D.tup.injEq, D.str.injEq, Sl.own.injEq, Sl.val.injEq, Option.some.injEq, exists_eq_left', exists_eq_left, exists_eq', exists_eq, or_true, true_or, or_false, false_or, CMul, CPow, natAbs_10, natAbs_2, Int.cast_ofNat_Int, Nat.reducePow, exists_and_left, exists_const, and_assoc, true_and, and_true, and_self, false_and, and_false, if_true, if_false, ite_true, ite_false, reduceCtorEq, decide_true, decide_false, decide_eq_true_eq, decide_eq_false_iff_not, Bool.not_true, Bool.not_false, Bool.false_eq_true, List.replicate_zero, List.replicate_succ, List.map_cons, List.map_nil, List.nil_append, List.cons_append, Nat.reduceSub, Nat.reduceAdd, Nat.reduceLeDiff, Nat.reduceLT, Int.reduceLT, Int.reduceLE, Int.reduceAdd, Int.reduceSub, Int.reduceMul, Int.reduceNeg, Int.reduceMod, Int.reduceDiv, Int.reducePow, Int.reduceToNat, okD_int, okD_bl, okD_lst, okD_tup, okD_non, okL_nil, okL_cons, okD_str, okL_int, eqD_int, eqD_bl, eqD_str, eqD_tup, eqD_lst, eqL_cons, eqL_nil, eqL_cn, eqL_nc, eqL_int, Bool.and_eq_true, Bool.or_eq_true, Bool.not_eq_true', Bool.and_false, Bool.false_and, Bool.or_false, Bool.false_or, Bool.or_true, Bool.true_or, Bool.and_true, Bool.true_and, Bool.and_self, wIsT2, wDct0, wLstOf, wRepF, wAsgH, DV.hN, hIx, hCons, hNil, hTup, wLM, gCnt, gIdx, gList, gSorted, wAppPop, wRaise0, wRaise1, wTry, wIsE, wAct, wFl, flD, okD_bl])
  unfold B__law_is_right_4
  (try simp only [wSeq, wAsg, wOwn, wF, wLc, wSkip, wBrk, wCnt, wRet, wRetF, wRetN, wDrop, wIfS, wPar, wFor, wWh, wV, wApp, wExt, wSetIx, wAug, wVal, wLook, wC, wOp, wTst, wChain, wAnd, wOr, wNot, wAndV, wOrV, wNotV, wIf, wNil, wCons, wTup, wLst, wCall, wCB, wIsT, wiR1, wiR2, wiSq, wiEn, wiZip, gN, gT1, gT2, gT3, gT4, gT5, gT6, gT7, wYes, gAdd, DV.gSub, gMul, gMod, gDiv, gPow, gLt, gLe, gGt, gGe, gCmp, gEq, gNe, gIs, gIsN, DV.isNon, gIn, gNotIn, gIx, gSlc, wSlc, wNoP, wPart, gLen, gAbs, gInt, gMin2, gMax2, gAll, gAny, gSum, gTuple, wNeg, wRev, itemsOf, D.isTy, D.isHand, Sl.toD, big_0, big_1, big_2, big_3, big_4, big_5, big_6, big_7, big_8, big_9, big_10, big_11, big_12, draw_iff, own_ex, val_ex, wipeE, restE, Sl.keep, Option.getD_some, get_z, get_s, set_z, set_s, List.length_cons, List.length_nil, atI_0, atI_1, atI_2, atI_3, atI_4, ixN_5_0, ixN_5_1, ixN_5_2, ixN_5_3, ixN_5_4, D.bl.injEq, D.int.injEq, D.lst.injEq, D.tup.injEq, D.str.injEq, Sl.own.injEq, Sl.val.injEq, Option.some.injEq, exists_eq_left', exists_eq_left, exists_eq', exists_eq, or_true, true_or, or_false, false_or, CMul, CPow, natAbs_10, natAbs_2, Int.cast_ofNat_Int, Nat.reducePow, exists_and_left, exists_const, and_assoc, true_and, and_true, and_self, false_and, and_false, if_true, if_false, ite_true, ite_false, reduceCtorEq, decide_true, decide_false, decide_eq_true_eq, decide_eq_false_iff_not, Bool.not_true, Bool.not_false, Bool.false_eq_true, List.replicate_zero, List.replicate_succ, List.map_cons, List.map_nil, List.nil_append, List.cons_append, Nat.reduceSub, Nat.reduceAdd, Nat.reduceLeDiff, Nat.reduceLT, Int.reduceLT, Int.reduceLE, Int.reduceAdd, Int.reduceSub, Int.reduceMul, Int.reduceNeg, Int.reduceMod, Int.reduceDiv, Int.reducePow, Int.reduceToNat, okD_int, okD_bl, okD_lst, okD_tup, okD_non, okL_nil, okL_cons, okD_str, okL_int, eqD_int, eqD_bl, eqD_str, eqD_tup, eqD_lst, eqL_cons, eqL_nil, eqL_cn, eqL_nc, eqL_int, Bool.and_eq_true, Bool.or_eq_true, Bool.not_eq_true', Bool.and_false, Bool.false_and, Bool.or_false, Bool.false_or, Bool.or_true, Bool.true_or, Bool.and_true, Bool.true_and, Bool.and_self, wIsT2, wDct0, wLstOf, wRepF, wAsgH, DV.hN, hIx, hCons, hNil, hTup, wLM, gCnt, gIdx, gList, gSorted, wAppPop, wRaise0, wRaise1, wTry, wIsE, wAct, wFl, flD, okD_bl])
  refine sp_one_told c hw ?_
  (try simp only [wSeq, wAsg, wOwn, wF, wLc, wSkip, wBrk, wCnt, wRet, wRetF, wRetN, wDrop, wIfS, wPar, wFor, wWh, wV, wApp, wExt, wSetIx, wAug, wVal, wLook, wC, wOp, wTst, wChain, wAnd, wOr, wNot, wAndV, wOrV, wNotV, wIf, wNil, wCons, wTup, wLst, wCall, wCB, wIsT, wiR1, wiR2, wiSq, wiEn, wiZip, gN, gT1, gT2, gT3, gT4, gT5, gT6, gT7, wYes, gAdd, DV.gSub, gMul, gMod, gDiv, gPow, gLt, gLe, gGt, gGe, gCmp, gEq, gNe, gIs, gIsN, DV.isNon, gIn, gNotIn, gIx, gSlc, wSlc, wNoP, wPart, gLen, gAbs, gInt, gMin2, gMax2, gAll, gAny, gSum, gTuple, wNeg, wRev, itemsOf, D.isTy, D.isHand, Sl.toD, big_0, big_1, big_2, big_3, big_4, big_5, big_6, big_7, big_8, big_9, big_10, big_11, big_12, draw_iff, own_ex, val_ex, wipeE, restE, Sl.keep, Option.getD_some, get_z, get_s, set_z, set_s, List.length_cons, List.length_nil, atI_0, atI_1, atI_2, atI_3, atI_4, ixN_5_0, ixN_5_1, ixN_5_2, ixN_5_3, ixN_5_4, D.bl.injEq, D.int.injEq, D.lst.injEq, D.tup.injEq, D.str.injEq, Sl.own.injEq, Sl.val.injEq, Option.some.injEq, exists_eq_left', exists_eq_left, exists_eq', exists_eq, or_true, true_or, or_false, false_or, CMul, CPow, natAbs_10, natAbs_2, Int.cast_ofNat_Int, Nat.reducePow, exists_and_left, exists_const, and_assoc, true_and, and_true, and_self, false_and, and_false, if_true, if_false, ite_true, ite_false, reduceCtorEq, decide_true, decide_false, decide_eq_true_eq, decide_eq_false_iff_not, Bool.not_true, Bool.not_false, Bool.false_eq_true, List.replicate_zero, List.replicate_succ, List.map_cons, List.map_nil, List.nil_append, List.cons_append, Nat.reduceSub, Nat.reduceAdd, Nat.reduceLeDiff, Nat.reduceLT, Int.reduceLT, Int.reduceLE, Int.reduceAdd, Int.reduceSub, Int.reduceMul, Int.reduceNeg, Int.reduceMod, Int.reduceDiv, Int.reducePow, Int.reduceToNat, okD_int, okD_bl, okD_lst, okD_tup, okD_non, okL_nil, okL_cons, okD_str, okL_int, eqD_int, eqD_bl, eqD_str, eqD_tup, eqD_lst, eqL_cons, eqL_nil, eqL_cn, eqL_nc, eqL_int, Bool.and_eq_true, Bool.or_eq_true, Bool.not_eq_true', Bool.and_false, Bool.false_and, Bool.or_false, Bool.false_or, Bool.or_true, Bool.true_or, Bool.and_true, Bool.true_and, Bool.and_self, wIsT2, wDct0, wLstOf, wRepF, wAsgH, DV.hN, hIx, hCons, hNil, hTup, wLM, gCnt, gIdx, gList, gSorted, wAppPop, wRaise0, wRaise1, wTry, wIsE, wAct, wFl, flD, okD_bl])
  refine sp_law_is (isOk_mono ok_least) ?_
  (try simp only [wSeq, wAsg, wOwn, wF, wLc, wSkip, wBrk, wCnt, wRet, wRetF, wRetN, wDrop, wIfS, wPar, wFor, wWh, wV, wApp, wExt, wSetIx, wAug, wVal, wLook, wC, wOp, wTst, wChain, wAnd, wOr, wNot, wAndV, wOrV, wNotV, wIf, wNil, wCons, wTup, wLst, wCall, wCB, wIsT, wiR1, wiR2, wiSq, wiEn, wiZip, gN, gT1, gT2, gT3, gT4, gT5, gT6, gT7, wYes, gAdd, DV.gSub, gMul, gMod, gDiv, gPow, gLt, gLe, gGt, gGe, gCmp, gEq, gNe, gIs, gIsN, DV.isNon, gIn, gNotIn, gIx, gSlc, wSlc, wNoP, wPart, gLen, gAbs, gInt, gMin2, gMax2, gAll, gAny, gSum, gTuple, wNeg, wRev, itemsOf, D.isTy, D.isHand, Sl.toD, big_0, big_1, big_2, big_3, big_4, big_5, big_6, big_7, big_8, big_9, big_10, big_11, big_12, draw_iff, own_ex, val_ex, wipeE, restE, Sl.keep, Option.getD_some, get_z, get_s, set_z, set_s, List.length_cons, List.length_nil, atI_0, atI_1, atI_2, atI_3, atI_4, ixN_5_0, ixN_5_1, ixN_5_2, ixN_5_3, ixN_5_4, D.bl.injEq, D.int.injEq, D.lst.injEq, D.tup.injEq, D.str.injEq, Sl.own.injEq, Sl.val.injEq, Option.some.injEq, exists_eq_left', exists_eq_left, exists_eq', exists_eq, or_true, true_or, or_false, false_or, CMul, CPow, natAbs_10, natAbs_2, Int.cast_ofNat_Int, Nat.reducePow, exists_and_left, exists_const, and_assoc, true_and, and_true, and_self, false_and, and_false, if_true, if_false, ite_true, ite_false, reduceCtorEq, decide_true, decide_false, decide_eq_true_eq, decide_eq_false_iff_not, Bool.not_true, Bool.not_false, Bool.false_eq_true, List.replicate_zero, List.replicate_succ, List.map_cons, List.map_nil, List.nil_append, List.cons_append, Nat.reduceSub, Nat.reduceAdd, Nat.reduceLeDiff, Nat.reduceLT, Int.reduceLT, Int.reduceLE, Int.reduceAdd, Int.reduceSub, Int.reduceMul, Int.reduceNeg, Int.reduceMod, Int.reduceDiv, Int.reducePow, Int.reduceToNat, okD_int, okD_bl, okD_lst, okD_tup, okD_non, okL_nil, okL_cons, okD_str, okL_int, eqD_int, eqD_bl, eqD_str, eqD_tup, eqD_lst, eqL_cons, eqL_nil, eqL_cn, eqL_nc, eqL_int, Bool.and_eq_true, Bool.or_eq_true, Bool.not_eq_true', Bool.and_false, Bool.false_and, Bool.or_false, Bool.false_or, Bool.or_true, Bool.true_or, Bool.and_true, Bool.true_and, Bool.and_self, wIsT2, wDct0, wLstOf, wRepF, wAsgH, DV.hN, hIx, hCons, hNil, hTup, wLM, gCnt, gIdx, gList, gSorted, wAppPop, wRaise0, wRaise1, wTry, wIsE, wAct, wFl, flD, okD_bl])
  unfold B__law_is_right_6
  simp only [wSeq, wAsg, wOwn, wF, wLc, wSkip, wBrk, wCnt, wRet, wRetF, wRetN, wDrop, wIfS, wPar, wFor, wWh, wV, wApp, wExt, wSetIx, wAug, wVal, wLook, wC, wOp, wTst, wChain, wAnd, wOr, wNot, wAndV, wOrV, wNotV, wIf, wNil, wCons, wTup, wLst, wCall, wCB, wIsT, wiR1, wiR2, wiSq, wiEn, wiZip, gN, gT1, gT2, gT3, gT4, gT5, gT6, gT7, wYes, gAdd, DV.gSub, gMul, gMod, gDiv, gPow, gLt, gLe, gGt, gGe, gCmp, gEq, gNe, gIs, gIsN, DV.isNon, gIn, gNotIn, gIx, gSlc, wSlc, wNoP, wPart, gLen, gAbs, gInt, gMin2, gMax2, gAll, gAny, gSum, gTuple, wNeg, wRev, itemsOf, D.isTy, D.isHand, Sl.toD, big_0, big_1, big_2, big_3, big_4, big_5, big_6, big_7, big_8, big_9, big_10, big_11, big_12, draw_iff, own_ex, val_ex, wipeE, restE, Sl.keep, Option.getD_some, get_z, get_s, set_z, set_s, List.length_cons, List.length_nil, atI_0, atI_1, atI_2, atI_3, atI_4, ixN_5_0, ixN_5_1, ixN_5_2, ixN_5_3, ixN_5_4, D.bl.injEq, D.int.injEq, D.lst.injEq, D.tup.injEq, D.str.injEq, Sl.own.injEq, Sl.val.injEq, Option.some.injEq, exists_eq_left', exists_eq_left, exists_eq', exists_eq, or_true, true_or, or_false, false_or, CMul, CPow, natAbs_10, natAbs_2, Int.cast_ofNat_Int, Nat.reducePow, exists_and_left, exists_const, and_assoc, true_and, and_true, and_self, false_and, and_false, if_true, if_false, ite_true, ite_false, reduceCtorEq, decide_true, decide_false, decide_eq_true_eq, decide_eq_false_iff_not, Bool.not_true, Bool.not_false, Bool.false_eq_true, List.replicate_zero, List.replicate_succ, List.map_cons, List.map_nil, List.nil_append, List.cons_append, Nat.reduceSub, Nat.reduceAdd, Nat.reduceLeDiff, Nat.reduceLT, Int.reduceLT, Int.reduceLE, Int.reduceAdd, Int.reduceSub, Int.reduceMul, Int.reduceNeg, Int.reduceMod, Int.reduceDiv, Int.reducePow, Int.reduceToNat, okD_int, okD_bl, okD_lst, okD_tup, okD_non, okL_nil, okL_cons, okD_str, okL_int, eqD_int, eqD_bl, eqD_str, eqD_tup, eqD_lst, eqL_cons, eqL_nil, eqL_cn, eqL_nc, eqL_int, Bool.and_eq_true, Bool.or_eq_true, Bool.not_eq_true', Bool.and_false, Bool.false_and, Bool.or_false, Bool.false_or, Bool.or_true, Bool.true_or, Bool.and_true, Bool.true_and, Bool.and_self, wIsT2, wDct0, wLstOf, wRepF, wAsgH, DV.hN, hIx, hCons, hNil, hTup, wLM, gCnt, gIdx, gList, gSorted, wAppPop, wRaise0, wRaise1, wTry, wIsE, wAct, wFl, flD, okD_bl, List.length_map]
  refine ⟨by unfold big; omega, ?_⟩
  refine lc_map (fun d => .bl (match d with | .int w => decide (s ≤ m) && decide (Nat.gcd m.toNat w.toNat = 1) | _ => false)) (fun d hd K' hk' => ?_) fun a => ?_
  · obtain ⟨w, hwm, rfl⟩ := List.mem_map.mp hd
    have hw2 := hw.b _ hwm
    obtain ⟨w', rfl⟩ := Int.eq_ofNat_of_zero_le hw2.1
    obtain ⟨m', rfl⟩ := Int.eq_ofNat_of_zero_le (show 0 ≤ m by omega)
    (try simp only [wSeq, wAsg, wOwn, wF, wLc, wSkip, wBrk, wCnt, wRet, wRetF, wRetN, wDrop, wIfS, wPar, wFor, wWh, wV, wApp, wExt, wSetIx, wAug, wVal, wLook, wC, wOp, wTst, wChain, wAnd, wOr, wNot, wAndV, wOrV, wNotV, wIf, wNil, wCons, wTup, wLst, wCall, wCB, wIsT, wiR1, wiR2, wiSq, wiEn, wiZip, gN, gT1, gT2, gT3, gT4, gT5, gT6, gT7, wYes, gAdd, DV.gSub, gMul, gMod, gDiv, gPow, gLt, gLe, gGt, gGe, gCmp, gEq, gNe, gIs, gIsN, DV.isNon, gIn, gNotIn, gIx, gSlc, wSlc, wNoP, wPart, gLen, gAbs, gInt, gMin2, gMax2, gAll, gAny, gSum, gTuple, wNeg, wRev, itemsOf, D.isTy, D.isHand, Sl.toD, big_0, big_1, big_2, big_3, big_4, big_5, big_6, big_7, big_8, big_9, big_10, big_11, big_12, draw_iff, own_ex, val_ex, wipeE, restE, Sl.keep, Option.getD_some, get_z, get_s, set_z, set_s, List.length_cons, List.length_nil, atI_0, atI_1, atI_2, atI_3, atI_4, ixN_5_0, ixN_5_1, ixN_5_2, ixN_5_3, ixN_5_4, D.bl.injEq, D.int.injEq, D.lst.injEq, D.tup.injEq, D.str.injEq, Sl.own.injEq, Sl.val.injEq, Option.some.injEq, exists_eq_left', exists_eq_left, exists_eq', exists_eq, or_true, true_or, or_false, false_or, CMul, CPow, natAbs_10, natAbs_2, Int.cast_ofNat_Int, Nat.reducePow, exists_and_left, exists_const, and_assoc, true_and, and_true, and_self, false_and, and_false, if_true, if_false, ite_true, ite_false, reduceCtorEq, decide_true, decide_false, decide_eq_true_eq, decide_eq_false_iff_not, Bool.not_true, Bool.not_false, Bool.false_eq_true, List.replicate_zero, List.replicate_succ, List.map_cons, List.map_nil, List.nil_append, List.cons_append, Nat.reduceSub, Nat.reduceAdd, Nat.reduceLeDiff, Nat.reduceLT, Int.reduceLT, Int.reduceLE, Int.reduceAdd, Int.reduceSub, Int.reduceMul, Int.reduceNeg, Int.reduceMod, Int.reduceDiv, Int.reducePow, Int.reduceToNat, okD_int, okD_bl, okD_lst, okD_tup, okD_non, okL_nil, okL_cons, okD_str, okL_int, eqD_int, eqD_bl, eqD_str, eqD_tup, eqD_lst, eqL_cons, eqL_nil, eqL_cn, eqL_nc, eqL_int, Bool.and_eq_true, Bool.or_eq_true, Bool.not_eq_true', Bool.and_false, Bool.false_and, Bool.or_false, Bool.false_or, Bool.or_true, Bool.true_or, Bool.and_true, Bool.true_and, Bool.and_self, wIsT2, wDct0, wLstOf, wRepF, wAsgH, DV.hN, hIx, hCons, hNil, hTup, wLM, gCnt, gIdx, gList, gSorted, wAppPop, wRaise0, wRaise1, wTry, wIsE, wAct, wFl, flD, okD_bl])
    by_cases hs : s ≤ (m' : Int)
    · simp only [wSeq, wAsg, wOwn, wF, wLc, wSkip, wBrk, wCnt, wRet, wRetF, wRetN, wDrop, wIfS, wPar, wFor, wWh, wV, wApp, wExt, wSetIx, wAug, wVal, wLook, wC, wOp, wTst, wChain, wAnd, wOr, wNot, wAndV, wOrV, wNotV, wIf, wNil, wCons, wTup, wLst, wCall, wCB, wIsT, wiR1, wiR2, wiSq, wiEn, wiZip, gN, gT1, gT2, gT3, gT4, gT5, gT6, gT7, wYes, gAdd, DV.gSub, gMul, gMod, gDiv, gPow, gLt, gLe, gGt, gGe, gCmp, gEq, gNe, gIs, gIsN, DV.isNon, gIn, gNotIn, gIx, gSlc, wSlc, wNoP, wPart, gLen, gAbs, gInt, gMin2, gMax2, gAll, gAny, gSum, gTuple, wNeg, wRev, itemsOf, D.isTy, D.isHand, Sl.toD, big_0, big_1, big_2, big_3, big_4, big_5, big_6, big_7, big_8, big_9, big_10, big_11, big_12, draw_iff, own_ex, val_ex, wipeE, restE, Sl.keep, Option.getD_some, get_z, get_s, set_z, set_s, List.length_cons, List.length_nil, atI_0, atI_1, atI_2, atI_3, atI_4, ixN_5_0, ixN_5_1, ixN_5_2, ixN_5_3, ixN_5_4, D.bl.injEq, D.int.injEq, D.lst.injEq, D.tup.injEq, D.str.injEq, Sl.own.injEq, Sl.val.injEq, Option.some.injEq, exists_eq_left', exists_eq_left, exists_eq', exists_eq, or_true, true_or, or_false, false_or, CMul, CPow, natAbs_10, natAbs_2, Int.cast_ofNat_Int, Nat.reducePow, exists_and_left, exists_const, and_assoc, true_and, and_true, and_self, false_and, and_false, if_true, if_false, ite_true, ite_false, reduceCtorEq, decide_true, decide_false, decide_eq_true_eq, decide_eq_false_iff_not, Bool.not_true, Bool.not_false, Bool.false_eq_true, List.replicate_zero, List.replicate_succ, List.map_cons, List.map_nil, List.nil_append, List.cons_append, Nat.reduceSub, Nat.reduceAdd, Nat.reduceLeDiff, Nat.reduceLT, Int.reduceLT, Int.reduceLE, Int.reduceAdd, Int.reduceSub, Int.reduceMul, Int.reduceNeg, Int.reduceMod, Int.reduceDiv, Int.reducePow, Int.reduceToNat, okD_int, okD_bl, okD_lst, okD_tup, okD_non, okL_nil, okL_cons, okD_str, okL_int, eqD_int, eqD_bl, eqD_str, eqD_tup, eqD_lst, eqL_cons, eqL_nil, eqL_cn, eqL_nc, eqL_int, Bool.and_eq_true, Bool.or_eq_true, Bool.not_eq_true', Bool.and_false, Bool.false_and, Bool.or_false, Bool.false_or, Bool.or_true, Bool.true_or, Bool.and_true, Bool.true_and, Bool.and_self, wIsT2, wDct0, wLstOf, wRepF, wAsgH, DV.hN, hIx, hCons, hNil, hTup, wLM, gCnt, gIdx, gList, gSorted, wAppPop, wRaise0, wRaise1, wTry, wIsE, wAct, wFl, flD, okD_bl, hs]
      refine sp_law_common ?_
      have e1 : decide (((Nat.gcd m' w' : Nat) : Int) = 1) = decide (Nat.gcd m' w' = 1) := decide_eq_decide.mpr (by omega)
      simp only [wSeq, wAsg, wOwn, wF, wLc, wSkip, wBrk, wCnt, wRet, wRetF, wRetN, wDrop, wIfS, wPar, wFor, wWh, wV, wApp, wExt, wSetIx, wAug, wVal, wLook, wC, wOp, wTst, wChain, wAnd, wOr, wNot, wAndV, wOrV, wNotV, wIf, wNil, wCons, wTup, wLst, wCall, wCB, wIsT, wiR1, wiR2, wiSq, wiEn, wiZip, gN, gT1, gT2, gT3, gT4, gT5, gT6, gT7, wYes, gAdd, DV.gSub, gMul, gMod, gDiv, gPow, gLt, gLe, gGt, gGe, gCmp, gEq, gNe, gIs, gIsN, DV.isNon, gIn, gNotIn, gIx, gSlc, wSlc, wNoP, wPart, gLen, gAbs, gInt, gMin2, gMax2, gAll, gAny, gSum, gTuple, wNeg, wRev, itemsOf, D.isTy, D.isHand, Sl.toD, big_0, big_1, big_2, big_3, big_4, big_5, big_6, big_7, big_8, big_9, big_10, big_11, big_12, draw_iff, own_ex, val_ex, wipeE, restE, Sl.keep, Option.getD_some, get_z, get_s, set_z, set_s, List.length_cons, List.length_nil, atI_0, atI_1, atI_2, atI_3, atI_4, ixN_5_0, ixN_5_1, ixN_5_2, ixN_5_3, ixN_5_4, D.bl.injEq, D.int.injEq, D.lst.injEq, D.tup.injEq, D.str.injEq, Sl.own.injEq, Sl.val.injEq, Option.some.injEq, exists_eq_left', exists_eq_left, exists_eq', exists_eq, or_true, true_or, or_false, false_or, CMul, CPow, natAbs_10, natAbs_2, Int.cast_ofNat_Int, Nat.reducePow, exists_and_left, exists_const, and_assoc, true_and, and_true, and_self, false_and, and_false, if_true, if_false, ite_true, ite_false, reduceCtorEq, decide_true, decide_false, decide_eq_true_eq, decide_eq_false_iff_not, Bool.not_true, Bool.not_false, Bool.false_eq_true, List.replicate_zero, List.replicate_succ, List.map_cons, List.map_nil, List.nil_append, List.cons_append, Nat.reduceSub, Nat.reduceAdd, Nat.reduceLeDiff, Nat.reduceLT, Int.reduceLT, Int.reduceLE, Int.reduceAdd, Int.reduceSub, Int.reduceMul, Int.reduceNeg, Int.reduceMod, Int.reduceDiv, Int.reducePow, Int.reduceToNat, okD_int, okD_bl, okD_lst, okD_tup, okD_non, okL_nil, okL_cons, okD_str, okL_int, eqD_int, eqD_bl, eqD_str, eqD_tup, eqD_lst, eqL_cons, eqL_nil, eqL_cn, eqL_nc, eqL_int, Bool.and_eq_true, Bool.or_eq_true, Bool.not_eq_true', Bool.and_false, Bool.false_and, Bool.or_false, Bool.false_or, Bool.or_true, Bool.true_or, Bool.and_true, Bool.true_and, Bool.and_self, wIsT2, wDct0, wLstOf, wRepF, wAsgH, DV.hN, hIx, hCons, hNil, hTup, wLM, gCnt, gIdx, gList, gSorted, wAppPop, wRaise0, wRaise1, wTry, wIsE, wAct, wFl, flD, okD_bl, e1]
      simp only [wSeq, wAsg, wOwn, wF, wLc, wSkip, wBrk, wCnt, wRet, wRetF, wRetN, wDrop, wIfS, wPar, wFor, wWh, wV, wApp, wExt, wSetIx, wAug, wVal, wLook, wC, wOp, wTst, wChain, wAnd, wOr, wNot, wAndV, wOrV, wNotV, wIf, wNil, wCons, wTup, wLst, wCall, wCB, wIsT, wiR1, wiR2, wiSq, wiEn, wiZip, gN, gT1, gT2, gT3, gT4, gT5, gT6, gT7, wYes, gAdd, DV.gSub, gMul, gMod, gDiv, gPow, gLt, gLe, gGt, gGe, gCmp, gEq, gNe, gIs, gIsN, DV.isNon, gIn, gNotIn, gIx, gSlc, wSlc, wNoP, wPart, gLen, gAbs, gInt, gMin2, gMax2, gAll, gAny, gSum, gTuple, wNeg, wRev, itemsOf, D.isTy, D.isHand, Sl.toD, big_0, big_1, big_2, big_3, big_4, big_5, big_6, big_7, big_8, big_9, big_10, big_11, big_12, draw_iff, own_ex, val_ex, wipeE, restE, Sl.keep, Option.getD_some, get_z, get_s, set_z, set_s, List.length_cons, List.length_nil, atI_0, atI_1, atI_2, atI_3, atI_4, ixN_5_0, ixN_5_1, ixN_5_2, ixN_5_3, ixN_5_4, D.bl.injEq, D.int.injEq, D.lst.injEq, D.tup.injEq, D.str.injEq, Sl.own.injEq, Sl.val.injEq, Option.some.injEq, exists_eq_left', exists_eq_left, exists_eq', exists_eq, or_true, true_or, or_false, false_or, CMul, CPow, natAbs_10, natAbs_2, Int.cast_ofNat_Int, Nat.reducePow, exists_and_left, exists_const, and_assoc, true_and, and_true, and_self, false_and, and_false, if_true, if_false, ite_true, ite_false, reduceCtorEq, decide_true, decide_false, decide_eq_true_eq, decide_eq_false_iff_not, Bool.not_true, Bool.not_false, Bool.false_eq_true, List.replicate_zero, List.replicate_succ, List.map_cons, List.map_nil, List.nil_append, List.cons_append, Nat.reduceSub, Nat.reduceAdd, Nat.reduceLeDiff, Nat.reduceLT, Int.reduceLT, Int.reduceLE, Int.reduceAdd, Int.reduceSub, Int.reduceMul, Int.reduceNeg, Int.reduceMod, Int.reduceDiv, Int.reducePow, Int.reduceToNat, okD_int, okD_bl, okD_lst, okD_tup, okD_non, okL_nil, okL_cons, okD_str, okL_int, eqD_int, eqD_bl, eqD_str, eqD_tup, eqD_lst, eqL_cons, eqL_nil, eqL_cn, eqL_nc, eqL_int, Bool.and_eq_true, Bool.or_eq_true, Bool.not_eq_true', Bool.and_false, Bool.false_and, Bool.or_false, Bool.false_or, Bool.or_true, Bool.true_or, Bool.and_true, Bool.true_and, Bool.and_self, wIsT2, wDct0, wLstOf, wRepF, wAsgH, DV.hN, hIx, hCons, hNil, hTup, wLM, gCnt, gIdx, gList, gSorted, wAppPop, wRaise0, wRaise1, wTry, wIsE, wAct, wFl, flD, okD_bl, hs, Int.toNat_natCast] at hk'
      exact hk'
    · simp only [wSeq, wAsg, wOwn, wF, wLc, wSkip, wBrk, wCnt, wRet, wRetF, wRetN, wDrop, wIfS, wPar, wFor, wWh, wV, wApp, wExt, wSetIx, wAug, wVal, wLook, wC, wOp, wTst, wChain, wAnd, wOr, wNot, wAndV, wOrV, wNotV, wIf, wNil, wCons, wTup, wLst, wCall, wCB, wIsT, wiR1, wiR2, wiSq, wiEn, wiZip, gN, gT1, gT2, gT3, gT4, gT5, gT6, gT7, wYes, gAdd, DV.gSub, gMul, gMod, gDiv, gPow, gLt, gLe, gGt, gGe, gCmp, gEq, gNe, gIs, gIsN, DV.isNon, gIn, gNotIn, gIx, gSlc, wSlc, wNoP, wPart, gLen, gAbs, gInt, gMin2, gMax2, gAll, gAny, gSum, gTuple, wNeg, wRev, itemsOf, D.isTy, D.isHand, Sl.toD, big_0, big_1, big_2, big_3, big_4, big_5, big_6, big_7, big_8, big_9, big_10, big_11, big_12, draw_iff, own_ex, val_ex, wipeE, restE, Sl.keep, Option.getD_some, get_z, get_s, set_z, set_s, List.length_cons, List.length_nil, atI_0, atI_1, atI_2, atI_3, atI_4, ixN_5_0, ixN_5_1, ixN_5_2, ixN_5_3, ixN_5_4, D.bl.injEq, D.int.injEq, D.lst.injEq, D.tup.injEq, D.str.injEq, Sl.own.injEq, Sl.val.injEq, Option.some.injEq, exists_eq_left', exists_eq_left, exists_eq', exists_eq, or_true, true_or, or_false, false_or, CMul, CPow, natAbs_10, natAbs_2, Int.cast_ofNat_Int, Nat.reducePow, exists_and_left, exists_const, and_assoc, true_and, and_true, and_self, false_and, and_false, if_true, if_false, ite_true, ite_false, reduceCtorEq, decide_true, decide_false, decide_eq_true_eq, decide_eq_false_iff_not, Bool.not_true, Bool.not_false, Bool.false_eq_true, List.replicate_zero, List.replicate_succ, List.map_cons, List.map_nil, List.nil_append, List.cons_append, Nat.reduceSub, Nat.reduceAdd, Nat.reduceLeDiff, Nat.reduceLT, Int.reduceLT, Int.reduceLE, Int.reduceAdd, Int.reduceSub, Int.reduceMul, Int.reduceNeg, Int.reduceMod, Int.reduceDiv, Int.reducePow, Int.reduceToNat, okD_int, okD_bl, okD_lst, okD_tup, okD_non, okL_nil, okL_cons, okD_str, okL_int, eqD_int, eqD_bl, eqD_str, eqD_tup, eqD_lst, eqL_cons, eqL_nil, eqL_cn, eqL_nc, eqL_int, Bool.and_eq_true, Bool.or_eq_true, Bool.not_eq_true', Bool.and_false, Bool.false_and, Bool.or_false, Bool.false_or, Bool.or_true, Bool.true_or, Bool.and_true, Bool.true_and, Bool.and_self, wIsT2, wDct0, wLstOf, wRepF, wAsgH, DV.hN, hIx, hCons, hNil, hTup, wLM, gCnt, gIdx, gList, gSorted, wAppPop, wRaise0, wRaise1, wTry, wIsE, wAct, wFl, flD, okD_bl, hs]
      simp only [wSeq, wAsg, wOwn, wF, wLc, wSkip, wBrk, wCnt, wRet, wRetF, wRetN, wDrop, wIfS, wPar, wFor, wWh, wV, wApp, wExt, wSetIx, wAug, wVal, wLook, wC, wOp, wTst, wChain, wAnd, wOr, wNot, wAndV, wOrV, wNotV, wIf, wNil, wCons, wTup, wLst, wCall, wCB, wIsT, wiR1, wiR2, wiSq, wiEn, wiZip, gN, gT1, gT2, gT3, gT4, gT5, gT6, gT7, wYes, gAdd, DV.gSub, gMul, gMod, gDiv, gPow, gLt, gLe, gGt, gGe, gCmp, gEq, gNe, gIs, gIsN, DV.isNon, gIn, gNotIn, gIx, gSlc, wSlc, wNoP, wPart, gLen, gAbs, gInt, gMin2, gMax2, gAll, gAny, gSum, gTuple, wNeg, wRev, itemsOf, D.isTy, D.isHand, Sl.toD, big_0, big_1, big_2, big_3, big_4, big_5, big_6, big_7, big_8, big_9, big_10, big_11, big_12, draw_iff, own_ex, val_ex, wipeE, restE, Sl.keep, Option.getD_some, get_z, get_s, set_z, set_s, List.length_cons, List.length_nil, atI_0, atI_1, atI_2, atI_3, atI_4, ixN_5_0, ixN_5_1, ixN_5_2, ixN_5_3, ixN_5_4, D.bl.injEq, D.int.injEq, D.lst.injEq, D.tup.injEq, D.str.injEq, Sl.own.injEq, Sl.val.injEq, Option.some.injEq, exists_eq_left', exists_eq_left, exists_eq', exists_eq, or_true, true_or, or_false, false_or, CMul, CPow, natAbs_10, natAbs_2, Int.cast_ofNat_Int, Nat.reducePow, exists_and_left, exists_const, and_assoc, true_and, and_true, and_self, false_and, and_false, if_true, if_false, ite_true, ite_false, reduceCtorEq, decide_true, decide_false, decide_eq_true_eq, decide_eq_false_iff_not, Bool.not_true, Bool.not_false, Bool.false_eq_true, List.replicate_zero, List.replicate_succ, List.map_cons, List.map_nil, List.nil_append, List.cons_append, Nat.reduceSub, Nat.reduceAdd, Nat.reduceLeDiff, Nat.reduceLT, Int.reduceLT, Int.reduceLE, Int.reduceAdd, Int.reduceSub, Int.reduceMul, Int.reduceNeg, Int.reduceMod, Int.reduceDiv, Int.reducePow, Int.reduceToNat, okD_int, okD_bl, okD_lst, okD_tup, okD_non, okL_nil, okL_cons, okD_str, okL_int, eqD_int, eqD_bl, eqD_str, eqD_tup, eqD_lst, eqL_cons, eqL_nil, eqL_cn, eqL_nc, eqL_int, Bool.and_eq_true, Bool.or_eq_true, Bool.not_eq_true', Bool.and_false, Bool.false_and, Bool.or_false, Bool.false_or, Bool.or_true, Bool.true_or, Bool.and_true, Bool.true_and, Bool.and_self, wIsT2, wDct0, wLstOf, wRepF, wAsgH, DV.hN, hIx, hCons, hNil, hTup, wLM, gCnt, gIdx, gList, gSorted, wAppPop, wRaise0, wRaise1, wTry, wIsE, wAct, wFl, flD, okD_bl, hs] at hk'
      exact hk'
  · simp only [wSeq, wAsg, wOwn, wF, wLc, wSkip, wBrk, wCnt, wRet, wRetF, wRetN, wDrop, wIfS, wPar, wFor, wWh, wV, wApp, wExt, wSetIx, wAug, wVal, wLook, wC, wOp, wTst, wChain, wAnd, wOr, wNot, wAndV, wOrV, wNotV, wIf, wNil, wCons, wTup, wLst, wCall, wCB, wIsT, wiR1, wiR2, wiSq, wiEn, wiZip, gN, gT1, gT2, gT3, gT4, gT5, gT6, gT7, wYes, gAdd, DV.gSub, gMul, gMod, gDiv, gPow, gLt, gLe, gGt, gGe, gCmp, gEq, gNe, gIs, gIsN, DV.isNon, gIn, gNotIn, gIx, gSlc, wSlc, wNoP, wPart, gLen, gAbs, gInt, gMin2, gMax2, gAll, gAny, gSum, gTuple, wNeg, wRev, itemsOf, D.isTy, D.isHand, Sl.toD, big_0, big_1, big_2, big_3, big_4, big_5, big_6, big_7, big_8, big_9, big_10, big_11, big_12, draw_iff, own_ex, val_ex, wipeE, restE, Sl.keep, Option.getD_some, get_z, get_s, set_z, set_s, List.length_cons, List.length_nil, atI_0, atI_1, atI_2, atI_3, atI_4, ixN_5_0, ixN_5_1, ixN_5_2, ixN_5_3, ixN_5_4, D.bl.injEq, D.int.injEq, D.lst.injEq, D.tup.injEq, D.str.injEq, Sl.own.injEq, Sl.val.injEq, Option.some.injEq, exists_eq_left', exists_eq_left, exists_eq', exists_eq, or_true, true_or, or_false, false_or, CMul, CPow, natAbs_10, natAbs_2, Int.cast_ofNat_Int, Nat.reducePow, exists_and_left, exists_const, and_assoc, true_and, and_true, and_self, false_and, and_false, if_true, if_false, ite_true, ite_false, reduceCtorEq, decide_true, decide_false, decide_eq_true_eq, decide_eq_false_iff_not, Bool.not_true, Bool.not_false, Bool.false_eq_true, List.replicate_zero, List.replicate_succ, List.map_cons, List.map_nil, List.nil_append, List.cons_append, Nat.reduceSub, Nat.reduceAdd, Nat.reduceLeDiff, Nat.reduceLT, Int.reduceLT, Int.reduceLE, Int.reduceAdd, Int.reduceSub, Int.reduceMul, Int.reduceNeg, Int.reduceMod, Int.reduceDiv, Int.reducePow, Int.reduceToNat, okD_int, okD_bl, okD_lst, okD_tup, okD_non, okL_nil, okL_cons, okD_str, okL_int, eqD_int, eqD_bl, eqD_str, eqD_tup, eqD_lst, eqL_cons, eqL_nil, eqL_cn, eqL_nc, eqL_int, Bool.and_eq_true, Bool.or_eq_true, Bool.not_eq_true', Bool.and_false, Bool.false_and, Bool.or_false, Bool.false_or, Bool.or_true, Bool.true_or, Bool.and_true, Bool.true_and, Bool.and_self, wIsT2, wDct0, wLstOf, wRepF, wAsgH, DV.hN, hIx, hCons, hNil, hTup, wLM, gCnt, gIdx, gList, gSorted, wAppPop, wRaise0, wRaise1, wTry, wIsE, wAct, wFl, flD, okD_bl, toBs_of]
    cases ha : ((ws.map D.int).map fun d => (match d with | .int w => decide (s ≤ m) && decide (Nat.gcd m.toNat w.toNat = 1) | _ => false)).all id with
    | false =>
      (try simp only [wSeq, wAsg, wOwn, wF, wLc, wSkip, wBrk, wCnt, wRet, wRetF, wRetN, wDrop, wIfS, wPar, wFor, wWh, wV, wApp, wExt, wSetIx, wAug, wVal, wLook, wC, wOp, wTst, wChain, wAnd, wOr, wNot, wAndV, wOrV, wNotV, wIf, wNil, wCons, wTup, wLst, wCall, wCB, wIsT, wiR1, wiR2, wiSq, wiEn, wiZip, gN, gT1, gT2, gT3, gT4, gT5, gT6, gT7, wYes, gAdd, DV.gSub, gMul, gMod, gDiv, gPow, gLt, gLe, gGt, gGe, gCmp, gEq, gNe, gIs, gIsN, DV.isNon, gIn, gNotIn, gIx, gSlc, wSlc, wNoP, wPart, gLen, gAbs, gInt, gMin2, gMax2, gAll, gAny, gSum, gTuple, wNeg, wRev, itemsOf, D.isTy, D.isHand, Sl.toD, big_0, big_1, big_2, big_3, big_4, big_5, big_6, big_7, big_8, big_9, big_10, big_11, big_12, draw_iff, own_ex, val_ex, wipeE, restE, Sl.keep, Option.getD_some, get_z, get_s, set_z, set_s, List.length_cons, List.length_nil, atI_0, atI_1, atI_2, atI_3, atI_4, ixN_5_0, ixN_5_1, ixN_5_2, ixN_5_3, ixN_5_4, D.bl.injEq, D.int.injEq, D.lst.injEq, D.tup.injEq, D.str.injEq, Sl.own.injEq, Sl.val.injEq, Option.some.injEq, exists_eq_left', exists_eq_left, exists_eq', exists_eq, or_true, true_or, or_false, false_or, CMul, CPow, natAbs_10, natAbs_2, Int.cast_ofNat_Int, Nat.reducePow, exists_and_left, exists_const, and_assoc, true_and, and_true, and_self, false_and, and_false, if_true, if_false, ite_true, ite_false, reduceCtorEq, decide_true, decide_false, decide_eq_true_eq, decide_eq_false_iff_not, Bool.not_true, Bool.not_false, Bool.false_eq_true, List.replicate_zero, List.replicate_succ, List.map_cons, List.map_nil, List.nil_append, List.cons_append, Nat.reduceSub, Nat.reduceAdd, Nat.reduceLeDiff, Nat.reduceLT, Int.reduceLT, Int.reduceLE, Int.reduceAdd, Int.reduceSub, Int.reduceMul, Int.reduceNeg, Int.reduceMod, Int.reduceDiv, Int.reducePow, Int.reduceToNat, okD_int, okD_bl, okD_lst, okD_tup, okD_non, okL_nil, okL_cons, okD_str, okL_int, eqD_int, eqD_bl, eqD_str, eqD_tup, eqD_lst, eqL_cons, eqL_nil, eqL_cn, eqL_nc, eqL_int, Bool.and_eq_true, Bool.or_eq_true, Bool.not_eq_true', Bool.and_false, Bool.false_and, Bool.or_false, Bool.false_or, Bool.or_true, Bool.true_or, Bool.and_true, Bool.true_and, Bool.and_self, wIsT2, wDct0, wLstOf, wRepF, wAsgH, DV.hN, hIx, hCons, hNil, hTup, wLM, gCnt, gIdx, gList, gSorted, wAppPop, wRaise0, wRaise1, wTry, wIsE, wAct, wFl, flD, okD_bl])
      exact l8 c hw hk0 hk h
    | true =>
      have e1 : least s m (enumI 0 ws) = .tup [.str "seen"] := by
        refine cop_seen c hw fun w hwm => ?_
        rw [List.all_eq_true] at ha
        have := ha _ (List.mem_map.mpr ⟨.int w, List.mem_map.mpr ⟨w, hwm, rfl⟩, rfl⟩)
        simpa using this
      simp only [wSeq, wAsg, wOwn, wF, wLc, wSkip, wBrk, wCnt, wRet, wRetF, wRetN, wDrop, wIfS, wPar, wFor, wWh, wV, wApp, wExt, wSetIx, wAug, wVal, wLook, wC, wOp, wTst, wChain, wAnd, wOr, wNot, wAndV, wOrV, wNotV, wIf, wNil, wCons, wTup, wLst, wCall, wCB, wIsT, wiR1, wiR2, wiSq, wiEn, wiZip, gN, gT1, gT2, gT3, gT4, gT5, gT6, gT7, wYes, gAdd, DV.gSub, gMul, gMod, gDiv, gPow, gLt, gLe, gGt, gGe, gCmp, gEq, gNe, gIs, gIsN, DV.isNon, gIn, gNotIn, gIx, gSlc, wSlc, wNoP, wPart, gLen, gAbs, gInt, gMin2, gMax2, gAll, gAny, gSum, gTuple, wNeg, wRev, itemsOf, D.isTy, D.isHand, Sl.toD, big_0, big_1, big_2, big_3, big_4, big_5, big_6, big_7, big_8, big_9, big_10, big_11, big_12, draw_iff, own_ex, val_ex, wipeE, restE, Sl.keep, Option.getD_some, get_z, get_s, set_z, set_s, List.length_cons, List.length_nil, atI_0, atI_1, atI_2, atI_3, atI_4, ixN_5_0, ixN_5_1, ixN_5_2, ixN_5_3, ixN_5_4, D.bl.injEq, D.int.injEq, D.lst.injEq, D.tup.injEq, D.str.injEq, Sl.own.injEq, Sl.val.injEq, Option.some.injEq, exists_eq_left', exists_eq_left, exists_eq', exists_eq, or_true, true_or, or_false, false_or, CMul, CPow, natAbs_10, natAbs_2, Int.cast_ofNat_Int, Nat.reducePow, exists_and_left, exists_const, and_assoc, true_and, and_true, and_self, false_and, and_false, if_true, if_false, ite_true, ite_false, reduceCtorEq, decide_true, decide_false, decide_eq_true_eq, decide_eq_false_iff_not, Bool.not_true, Bool.not_false, Bool.false_eq_true, List.replicate_zero, List.replicate_succ, List.map_cons, List.map_nil, List.nil_append, List.cons_append, Nat.reduceSub, Nat.reduceAdd, Nat.reduceLeDiff, Nat.reduceLT, Int.reduceLT, Int.reduceLE, Int.reduceAdd, Int.reduceSub, Int.reduceMul, Int.reduceNeg, Int.reduceMod, Int.reduceDiv, Int.reducePow, Int.reduceToNat, okD_int, okD_bl, okD_lst, okD_tup, okD_non, okL_nil, okL_cons, okD_str, okL_int, eqD_int, eqD_bl, eqD_str, eqD_tup, eqD_lst, eqL_cons, eqL_nil, eqL_cn, eqL_nc, eqL_int, Bool.and_eq_true, Bool.or_eq_true, Bool.not_eq_true', Bool.and_false, Bool.false_and, Bool.or_false, Bool.false_or, Bool.or_true, Bool.true_or, Bool.and_true, Bool.true_and, Bool.and_self, wIsT2, wDct0, wLstOf, wRepF, wAsgH, DV.hN, hIx, hCons, hNil, hTup, wLM, gCnt, gIdx, gList, gSorted, wAppPop, wRaise0, wRaise1, wTry, wIsE, wAct, wFl, flD, okD_bl, e1, ok_s]
      exact l8 c hw hk0 hk h
theorem sp_is_right (h : Q (.bl true)) : T__law_is_right [.hand] Q E := by
  unfold T__law_is_right wFn B__law_is_right
  (try simp only [wSeq, wAsg, wOwn, wF, wLc, wSkip, wBrk, wCnt, wRet, wRetF, wRetN, wDrop, wIfS, wPar, wFor, wWh, wV, wApp, wExt, wSetIx, wAug, wVal, wLook, wC, wOp, wTst, wChain, wAnd, wOr, wNot, wAndV, wOrV, wNotV, wIf, wNil, wCons, wTup, wLst, wCall, wCB, wIsT, wiR1, wiR2, wiSq, wiEn, wiZip, gN, gT1, gT2, gT3, gT4, gT5, gT6, gT7, wYes, gAdd, DV.gSub, gMul, gMod, gDiv, gPow, gLt, gLe, gGt, gGe, gCmp, gEq, gNe, gIs, gIsN, DV.isNon, gIn, gNotIn, gIx, gSlc, wSlc, wNoP, wPart, gLen, gAbs, gInt, gMin2, gMax2, gAll, gAny, gSum, gTuple, wNeg, wRev, itemsOf, D.isTy, D.isHand, Sl.toD, big_0, big_1, big_2, big_3, big_4, big_5, big_6, big_7, big_8, big_9, big_10, big_11, big_12, draw_iff, own_ex, val_ex, wipeE, restE, Sl.keep, Option.getD_some, get_z, get_s, set_z, set_s, List.length_cons, List.length_nil, atI_0, atI_1, atI_2, atI_3, atI_4, ixN_5_0, ixN_5_1, ixN_5_2, ixN_5_3, ixN_5_4, D.bl.injEq, D.int.injEq, D.lst.injEq, D.tup.injEq, D.str.injEq, Sl.own.injEq, Sl.val.injEq, Option.some.injEq, exists_eq_left', exists_eq_left, exists_eq', exists_eq, or_true, true_or, or_false, false_or, CMul, CPow, natAbs_10, natAbs_2, Int.cast_ofNat_Int, Nat.reducePow, exists_and_left, exists_const, and_assoc, true_and, and_true, and_self, false_and, and_false, if_true, if_false, ite_true, ite_false, reduceCtorEq, decide_true, decide_false, decide_eq_true_eq, decide_eq_false_iff_not, Bool.not_true, Bool.not_false, Bool.false_eq_true, List.replicate_zero, List.replicate_succ, List.map_cons, List.map_nil, List.nil_append, List.cons_append, Nat.reduceSub, Nat.reduceAdd, Nat.reduceLeDiff, Nat.reduceLT, Int.reduceLT, Int.reduceLE, Int.reduceAdd, Int.reduceSub, Int.reduceMul, Int.reduceNeg, Int.reduceMod, Int.reduceDiv, Int.reducePow, Int.reduceToNat, okD_int, okD_bl, okD_lst, okD_tup, okD_non, okL_nil, okL_cons, okD_str, okL_int, eqD_int, eqD_bl, eqD_str, eqD_tup, eqD_lst, eqL_cons, eqL_nil, eqL_cn, eqL_nc, eqL_int, Bool.and_eq_true, Bool.or_eq_true, Bool.not_eq_true', Bool.and_false, Bool.false_and, Bool.or_false, Bool.false_or, Bool.or_true, Bool.true_or, Bool.and_true, Bool.true_and, Bool.and_self, wIsT2, wDct0, wLstOf, wRepF, wAsgH, DV.hN, hIx, hCons, hNil, hTup, wLM, gCnt, gIdx, gList, gSorted, wAppPop, wRaise0, wRaise1, wTry, wIsE, wAct, wFl, flD, okD_bl])
  intro d d1 d2 _
  refine sp_some (by decide) (by decide) fun x hx => ?_
  have hx2 : ∃ y : Int, x = .int y ∧ 9 ≤ y ∧ y ≤ 39 := by
    simp only [List.mem_cons, List.not_mem_nil, or_false] at hx
    rcases hx with rfl | rfl
    · exact ⟨9, rfl, by decide, by decide⟩
    · exact ⟨39, rfl, by decide, by decide⟩
  obtain ⟨y, rfl, y1, y2⟩ := hx2
  (try simp only [wSeq, wAsg, wOwn, wF, wLc, wSkip, wBrk, wCnt, wRet, wRetF, wRetN, wDrop, wIfS, wPar, wFor, wWh, wV, wApp, wExt, wSetIx, wAug, wVal, wLook, wC, wOp, wTst, wChain, wAnd, wOr, wNot, wAndV, wOrV, wNotV, wIf, wNil, wCons, wTup, wLst, wCall, wCB, wIsT, wiR1, wiR2, wiSq, wiEn, wiZip, gN, gT1, gT2, gT3, gT4, gT5, gT6, gT7, wYes, gAdd, DV.gSub, gMul, gMod, gDiv, gPow, gLt, gLe, gGt, gGe, gCmp, gEq, gNe, gIs, gIsN, DV.isNon, gIn, gNotIn, gIx, gSlc, wSlc, wNoP, wPart, gLen, gAbs, gInt, gMin2, gMax2, gAll, gAny, gSum, gTuple, wNeg, wRev, itemsOf, D.isTy, D.isHand, Sl.toD, big_0, big_1, big_2, big_3, big_4, big_5, big_6, big_7, big_8, big_9, big_10, big_11, big_12, draw_iff, own_ex, val_ex, wipeE, restE, Sl.keep, Option.getD_some, get_z, get_s, set_z, set_s, List.length_cons, List.length_nil, atI_0, atI_1, atI_2, atI_3, atI_4, ixN_5_0, ixN_5_1, ixN_5_2, ixN_5_3, ixN_5_4, D.bl.injEq, D.int.injEq, D.lst.injEq, D.tup.injEq, D.str.injEq, Sl.own.injEq, Sl.val.injEq, Option.some.injEq, exists_eq_left', exists_eq_left, exists_eq', exists_eq, or_true, true_or, or_false, false_or, CMul, CPow, natAbs_10, natAbs_2, Int.cast_ofNat_Int, Nat.reducePow, exists_and_left, exists_const, and_assoc, true_and, and_true, and_self, false_and, and_false, if_true, if_false, ite_true, ite_false, reduceCtorEq, decide_true, decide_false, decide_eq_true_eq, decide_eq_false_iff_not, Bool.not_true, Bool.not_false, Bool.false_eq_true, List.replicate_zero, List.replicate_succ, List.map_cons, List.map_nil, List.nil_append, List.cons_append, Nat.reduceSub, Nat.reduceAdd, Nat.reduceLeDiff, Nat.reduceLT, Int.reduceLT, Int.reduceLE, Int.reduceAdd, Int.reduceSub, Int.reduceMul, Int.reduceNeg, Int.reduceMod, Int.reduceDiv, Int.reducePow, Int.reduceToNat, okD_int, okD_bl, okD_lst, okD_tup, okD_non, okL_nil, okL_cons, okD_str, okL_int, eqD_int, eqD_bl, eqD_str, eqD_tup, eqD_lst, eqL_cons, eqL_nil, eqL_cn, eqL_nc, eqL_int, Bool.and_eq_true, Bool.or_eq_true, Bool.not_eq_true', Bool.and_false, Bool.false_and, Bool.or_false, Bool.false_or, Bool.or_true, Bool.true_or, Bool.and_true, Bool.true_and, Bool.and_self, wIsT2, wDct0, wLstOf, wRepF, wAsgH, DV.hN, hIx, hCons, hNil, hTup, wLM, gCnt, gIdx, gList, gSorted, wAppPop, wRaise0, wRaise1, wTry, wIsE, wAct, wFl, flD, okD_bl])
  refine ⟨by omega, by omega, fun e e1 e2 => ?_⟩
  have c : Sm (2 + d) (2 + e) := ⟨by omega, by omega, by omega, by omega⟩
  unfold B__law_is_right_2
  (try simp only [wSeq, wAsg, wOwn, wF, wLc, wSkip, wBrk, wCnt, wRet, wRetF, wRetN, wDrop, wIfS, wPar, wFor, wWh, wV, wApp, wExt, wSetIx, wAug, wVal, wLook, wC, wOp, wTst, wChain, wAnd, wOr, wNot, wAndV, wOrV, wNotV, wIf, wNil, wCons, wTup, wLst, wCall, wCB, wIsT, wiR1, wiR2, wiSq, wiEn, wiZip, gN, gT1, gT2, gT3, gT4, gT5, gT6, gT7, wYes, gAdd, DV.gSub, gMul, gMod, gDiv, gPow, gLt, gLe, gGt, gGe, gCmp, gEq, gNe, gIs, gIsN, DV.isNon, gIn, gNotIn, gIx, gSlc, wSlc, wNoP, wPart, gLen, gAbs, gInt, gMin2, gMax2, gAll, gAny, gSum, gTuple, wNeg, wRev, itemsOf, D.isTy, D.isHand, Sl.toD, big_0, big_1, big_2, big_3, big_4, big_5, big_6, big_7, big_8, big_9, big_10, big_11, big_12, draw_iff, own_ex, val_ex, wipeE, restE, Sl.keep, Option.getD_some, get_z, get_s, set_z, set_s, List.length_cons, List.length_nil, atI_0, atI_1, atI_2, atI_3, atI_4, ixN_5_0, ixN_5_1, ixN_5_2, ixN_5_3, ixN_5_4, D.bl.injEq, D.int.injEq, D.lst.injEq, D.tup.injEq, D.str.injEq, Sl.own.injEq, Sl.val.injEq, Option.some.injEq, exists_eq_left', exists_eq_left, exists_eq', exists_eq, or_true, true_or, or_false, false_or, CMul, CPow, natAbs_10, natAbs_2, Int.cast_ofNat_Int, Nat.reducePow, exists_and_left, exists_const, and_assoc, true_and, and_true, and_self, false_and, and_false, if_true, if_false, ite_true, ite_false, reduceCtorEq, decide_true, decide_false, decide_eq_true_eq, decide_eq_false_iff_not, Bool.not_true, Bool.not_false, Bool.false_eq_true, List.replicate_zero, List.replicate_succ, List.map_cons, List.map_nil, List.nil_append, List.cons_append, Nat.reduceSub, Nat.reduceAdd, Nat.reduceLeDiff, Nat.reduceLT, Int.reduceLT, Int.reduceLE, Int.reduceAdd, Int.reduceSub, Int.reduceMul, Int.reduceNeg, Int.reduceMod, Int.reduceDiv, Int.reducePow, Int.reduceToNat, okD_int, okD_bl, okD_lst, okD_tup, okD_non, okL_nil, okL_cons, okD_str, okL_int, eqD_int, eqD_bl, eqD_str, eqD_tup, eqD_lst, eqL_cons, eqL_nil, eqL_cn, eqL_nc, eqL_int, Bool.and_eq_true, Bool.or_eq_true, Bool.not_eq_true', Bool.and_false, Bool.false_and, Bool.or_false, Bool.false_or, Bool.or_true, Bool.true_or, Bool.and_true, Bool.true_and, Bool.and_self, wIsT2, wDct0, wLstOf, wRepF, wAsgH, DV.hN, hIx, hCons, hNil, hTup, wLM, gCnt, gIdx, gList, gSorted, wAppPop, wRaise0, wRaise1, wTry, wIsE, wAct, wFl, flD, okD_bl])
  refine sp_law_weights c.m1 c.m2 fun ws hl hw => ?_
  (try simp only [wSeq, wAsg, wOwn, wF, wLc, wSkip, wBrk, wCnt, wRet, wRetF, wRetN, wDrop, wIfS, wPar, wFor, wWh, wV, wApp, wExt, wSetIx, wAug, wVal, wLook, wC, wOp, wTst, wChain, wAnd, wOr, wNot, wAndV, wOrV, wNotV, wIf, wNil, wCons, wTup, wLst, wCall, wCB, wIsT, wiR1, wiR2, wiSq, wiEn, wiZip, gN, gT1, gT2, gT3, gT4, gT5, gT6, gT7, wYes, gAdd, DV.gSub, gMul, gMod, gDiv, gPow, gLt, gLe, gGt, gGe, gCmp, gEq, gNe, gIs, gIsN, DV.isNon, gIn, gNotIn, gIx, gSlc, wSlc, wNoP, wPart, gLen, gAbs, gInt, gMin2, gMax2, gAll, gAny, gSum, gTuple, wNeg, wRev, itemsOf, D.isTy, D.isHand, Sl.toD, big_0, big_1, big_2, big_3, big_4, big_5, big_6, big_7, big_8, big_9, big_10, big_11, big_12, draw_iff, own_ex, val_ex, wipeE, restE, Sl.keep, Option.getD_some, get_z, get_s, set_z, set_s, List.length_cons, List.length_nil, atI_0, atI_1, atI_2, atI_3, atI_4, ixN_5_0, ixN_5_1, ixN_5_2, ixN_5_3, ixN_5_4, D.bl.injEq, D.int.injEq, D.lst.injEq, D.tup.injEq, D.str.injEq, Sl.own.injEq, Sl.val.injEq, Option.some.injEq, exists_eq_left', exists_eq_left, exists_eq', exists_eq, or_true, true_or, or_false, false_or, CMul, CPow, natAbs_10, natAbs_2, Int.cast_ofNat_Int, Nat.reducePow, exists_and_left, exists_const, and_assoc, true_and, and_true, and_self, false_and, and_false, if_true, if_false, ite_true, ite_false, reduceCtorEq, decide_true, decide_false, decide_eq_true_eq, decide_eq_false_iff_not, Bool.not_true, Bool.not_false, Bool.false_eq_true, List.replicate_zero, List.replicate_succ, List.map_cons, List.map_nil, List.nil_append, List.cons_append, Nat.reduceSub, Nat.reduceAdd, Nat.reduceLeDiff, Nat.reduceLT, Int.reduceLT, Int.reduceLE, Int.reduceAdd, Int.reduceSub, Int.reduceMul, Int.reduceNeg, Int.reduceMod, Int.reduceDiv, Int.reducePow, Int.reduceToNat, okD_int, okD_bl, okD_lst, okD_tup, okD_non, okL_nil, okL_cons, okD_str, okL_int, eqD_int, eqD_bl, eqD_str, eqD_tup, eqD_lst, eqL_cons, eqL_nil, eqL_cn, eqL_nc, eqL_int, Bool.and_eq_true, Bool.or_eq_true, Bool.not_eq_true', Bool.and_false, Bool.false_and, Bool.or_false, Bool.false_or, Bool.or_true, Bool.true_or, Bool.and_true, Bool.true_and, Bool.and_self, wIsT2, wDct0, wLstOf, wRepF, wAsgH, DV.hN, hIx, hCons, hNil, hTup, wLM, gCnt, gIdx, gList, gSorted, wAppPop, wRaise0, wRaise1, wTry, wIsE, wAct, wFl, flD, okD_bl])
  intro f f1 f2
  obtain ⟨k, hk⟩ := Int.eq_ofNat_of_zero_le (show 0 ≤ 1 + f by omega)
  rw [hk]
  exact l3 c hw (by omega) (by omega) fun _ => h
end
end Law

set_option Elab.async false
set_option linter.all false
set_option maxRecDepth 100000
namespace Law
open PySem PySem.Spec PyProof.Rows L2 DV
section
variable {Q : D → Prop} {E : Er → Prop}
theorem one_bad {x y z : D} {e : Er} (h : ∀ (Q : D → Prop) (E : Er → Prop), E e → T_check_weights [x, y, z] Q E) (he : E e) : T_one_told [x, y, z] Q E := by
  unfold T_one_told wFn B_one_told
  (try simp only [wSeq, wAsg, wOwn, wF, wLc, wSkip, wBrk, wCnt, wRet, wRetF, wRetN, wDrop, wIfS, wPar, wFor, wWh, wV, wApp, wExt, wSetIx, wAug, wVal, wLook, wC, wOp, wTst, wChain, wAnd, wOr, wNot, wAndV, wOrV, wNotV, wIf, wNil, wCons, wTup, wLst, wCall, wCB, wIsT, wiR1, wiR2, wiSq, wiEn, wiZip, gN, gT1, gT2, gT3, gT4, gT5, gT6, gT7, wYes, gAdd, DV.gSub, gMul, gMod, gDiv, gPow, gLt, gLe, gGt, gGe, gCmp, gEq, gNe, gIs, gIsN, DV.isNon, gIn, gNotIn, gIx, gSlc, wSlc, wNoP, wPart, gLen, gAbs, gInt, gMin2, gMax2, gAll, gAny, gSum, gTuple, wNeg, wRev, itemsOf, D.isTy, D.isHand, Sl.toD, big_0, big_1, big_2, big_3, big_4, big_5, big_6, big_7, big_8, big_9, big_10, big_11, big_12, draw_iff, own_ex, val_ex, wipeE, restE, Sl.keep, Option.getD_some, get_z, get_s, set_z, set_s, List.length_cons, List.length_nil, atI_0, atI_1, atI_2, atI_3, atI_4, ixN_5_0, ixN_5_1, ixN_5_2, ixN_5_3, ixN_5_4, D.bl.injEq, D.int.injEq, D.lst.injEq, D.tup.injEq, D.str.injEq, Sl.own.injEq, Sl.val.injEq, Option.some.injEq, exists_eq_left', exists_eq_left, exists_eq', exists_eq, or_true, true_or, or_false, false_or, CMul, CPow, natAbs_10, natAbs_2, Int.cast_ofNat_Int, Nat.reducePow, exists_and_left, exists_const, and_assoc, true_and, and_true, and_self, false_and, and_false, if_true, if_false, ite_true, ite_false, reduceCtorEq, decide_true, decide_false, decide_eq_true_eq, decide_eq_false_iff_not, Bool.not_true, Bool.not_false, Bool.false_eq_true, List.replicate_zero, List.replicate_succ, List.map_cons, List.map_nil, List.nil_append, List.cons_append, Nat.reduceSub, Nat.reduceAdd, Nat.reduceLeDiff, Nat.reduceLT, Int.reduceLT, Int.reduceLE, Int.reduceAdd, Int.reduceSub, Int.reduceMul, Int.reduceNeg, Int.reduceMod, Int.reduceDiv, Int.reducePow, Int.reduceToNat, okD_int, okD_bl, okD_lst, okD_tup, okD_non, okL_nil, okL_cons, okD_str, okL_int, eqD_int, eqD_bl, eqD_str, eqD_tup, eqD_lst, eqL_cons, eqL_nil, eqL_cn, eqL_nc, eqL_int, Bool.and_eq_true, Bool.or_eq_true, Bool.not_eq_true', Bool.and_false, Bool.false_and, Bool.or_false, Bool.false_or, Bool.or_true, Bool.true_or, Bool.and_true, Bool.true_and, Bool.and_self, wIsT2, wDct0, wLstOf, wRepF, wAsgH, DV.hN, hIx, hCons, hNil, hTup, wLM, gCnt, gIdx, gList, gSorted, wAppPop, wRaise0, wRaise1, wTry, wIsE, wAct, wFl, flD, okD_bl])
  exact h _ _ he
theorem swap_bad {x y z u : D} {e : Er} (h : ∀ (Q : D → Prop) (E : Er → Prop), E e → T_check_weights [x, y, z] Q E) (he : E e) : T_swap_told [x, y, z, u] Q E := by
  unfold T_swap_told wFn B_swap_told
  (try simp only [wSeq, wAsg, wOwn, wF, wLc, wSkip, wBrk, wCnt, wRet, wRetF, wRetN, wDrop, wIfS, wPar, wFor, wWh, wV, wApp, wExt, wSetIx, wAug, wVal, wLook, wC, wOp, wTst, wChain, wAnd, wOr, wNot, wAndV, wOrV, wNotV, wIf, wNil, wCons, wTup, wLst, wCall, wCB, wIsT, wiR1, wiR2, wiSq, wiEn, wiZip, gN, gT1, gT2, gT3, gT4, gT5, gT6, gT7, wYes, gAdd, DV.gSub, gMul, gMod, gDiv, gPow, gLt, gLe, gGt, gGe, gCmp, gEq, gNe, gIs, gIsN, DV.isNon, gIn, gNotIn, gIx, gSlc, wSlc, wNoP, wPart, gLen, gAbs, gInt, gMin2, gMax2, gAll, gAny, gSum, gTuple, wNeg, wRev, itemsOf, D.isTy, D.isHand, Sl.toD, big_0, big_1, big_2, big_3, big_4, big_5, big_6, big_7, big_8, big_9, big_10, big_11, big_12, draw_iff, own_ex, val_ex, wipeE, restE, Sl.keep, Option.getD_some, get_z, get_s, set_z, set_s, List.length_cons, List.length_nil, atI_0, atI_1, atI_2, atI_3, atI_4, ixN_5_0, ixN_5_1, ixN_5_2, ixN_5_3, ixN_5_4, D.bl.injEq, D.int.injEq, D.lst.injEq, D.tup.injEq, D.str.injEq, Sl.own.injEq, Sl.val.injEq, Option.some.injEq, exists_eq_left', exists_eq_left, exists_eq', exists_eq, or_true, true_or, or_false, false_or, CMul, CPow, natAbs_10, natAbs_2, Int.cast_ofNat_Int, Nat.reducePow, exists_and_left, exists_const, and_assoc, true_and, and_true, and_self, false_and, and_false, if_true, if_false, ite_true, ite_false, reduceCtorEq, decide_true, decide_false, decide_eq_true_eq, decide_eq_false_iff_not, Bool.not_true, Bool.not_false, Bool.false_eq_true, List.replicate_zero, List.replicate_succ, List.map_cons, List.map_nil, List.nil_append, List.cons_append, Nat.reduceSub, Nat.reduceAdd, Nat.reduceLeDiff, Nat.reduceLT, Int.reduceLT, Int.reduceLE, Int.reduceAdd, Int.reduceSub, Int.reduceMul, Int.reduceNeg, Int.reduceMod, Int.reduceDiv, Int.reducePow, Int.reduceToNat, okD_int, okD_bl, okD_lst, okD_tup, okD_non, okL_nil, okL_cons, okD_str, okL_int, eqD_int, eqD_bl, eqD_str, eqD_tup, eqD_lst, eqL_cons, eqL_nil, eqL_cn, eqL_nc, eqL_int, Bool.and_eq_true, Bool.or_eq_true, Bool.not_eq_true', Bool.and_false, Bool.false_and, Bool.or_false, Bool.false_or, Bool.or_true, Bool.true_or, Bool.and_true, Bool.true_and, Bool.and_self, wIsT2, wDct0, wLstOf, wRepF, wAsgH, DV.hN, hIx, hCons, hNil, hTup, wLM, gCnt, gIdx, gList, gSorted, wAppPop, wRaise0, wRaise1, wTry, wIsE, wAct, wFl, flD, okD_bl])
  exact h _ _ he
/-- no number from lo to hi -/
def badN (lo hi : Int) (x : D) : Prop := x.isHand = false ∧ within x lo hi = false
/-- no weights -/
def badW (x : D) : Prop := x.isHand = false ∧ (∀ xs, x = .tup xs → ∀ d ∈ xs, d.isHand = false) ∧ okW 7 x = false
theorem c37 : Sm 3 7 := ⟨by decide, by decide, by decide, by decide⟩
theorem w12 : Ws 7 [1, 2] := ⟨by decide, by decide, by decide⟩
theorem badN_5 {lo hi : Int} (h1 : 0 ≤ lo) (h0 : 0 ≤ hi) : ∀ x ∈ [D.int (-1), .non, .bl true, .str "2", .tup [.int 1]], badN lo hi x := by
  intro x hx
  simp only [List.mem_cons, List.not_mem_nil, or_false] at hx
  rcases hx with rfl | rfl | rfl | rfl | rfl
  · refine ⟨rfl, ?_⟩
    unfold within
    simp; omega
  all_goals exact ⟨rfl, rfl⟩
theorem badN_app {lo hi : Int} {xs ys : List D} (h1 : ∀ x ∈ xs, badN lo hi x) (h2 : ∀ x ∈ ys, badN lo hi x) : ∀ x ∈ xs ++ ys, badN lo hi x := fun x hx => (List.mem_append.mp hx).elim (h1 x) (h2 x)
theorem badN_one {lo hi i : Int} (h : i < lo ∨ hi < i) : badN lo hi (.int i) := ⟨rfl, by unfold within; simp; omega⟩
theorem badW_all : ∀ x ∈ [D.non, .tup [], .tup [.int 7], .tup [.int (-1)], .lst [.int 1], .tup [.bl true], .tup [.str "1"], .tup [[D.int 0], [D.int 0], [D.int 0], [D.int 0], [D.int 0], [D.int 0], [D.int 0], [D.int 0], [D.int 0], [D.int 0], [D.int 0], [D.int 0], [D.int 0], [D.int 0], [D.int 0], [D.int 0], [D.int 0], [D.int 0], [D.int 0], [D.int 0], [D.int 0], [D.int 0], [D.int 0], [D.int 0], [D.int 0]].flatten, .int 5], badW x := by
  intro x hx
  simp only [List.mem_cons, List.not_mem_nil, or_false] at hx
  rcases hx with rfl | rfl | rfl | rfl | rfl | rfl | rfl | rfl | rfl
  all_goals refine ⟨rfl, fun xs e d hd => ?_, ?_⟩
  all_goals first
    | (cases e; done)
    | (cases e; simp at hd; done)
    | (cases e; simp at hd; subst hd; rfl)
    | (cases e; simp at hd; obtain ⟨_, rfl⟩ := hd; rfl)
    | rfl
    | decide +kernel
theorem ok_nu : PyData.strOk "number" = true := by decide +kernel
theorem ok_we : PyData.strOk "weights" = true := by decide +kernel
abbrev odd : List D := [D.int (-1), .non, .bl true, .str "2", .tup [.int 1]]
theorem nn1 : ¬ (("number" : Str) = "weights") := by decide
theorem r9 {s0 s1 s2 s3 s4 : Sl} {q : Addr} {P : Post} (h : ∀ e, P.rt (.bl true) e) : B__law_are_refused_9 [s0, s1, s2, s3, s4, .own q [.str "number", .str "number", .str "weights", .str "weights", .str "number"]] P := by
  unfold B__law_are_refused_9
  simp only [wSeq, wAsg, wOwn, wF, wLc, wSkip, wBrk, wCnt, wRet, wRetF, wRetN, wDrop, wIfS, wPar, wFor, wWh, wV, wApp, wExt, wSetIx, wAug, wVal, wLook, wC, wOp, wTst, wChain, wAnd, wOr, wNot, wAndV, wOrV, wNotV, wIf, wNil, wCons, wTup, wLst, wCall, wCB, wIsT, wiR1, wiR2, wiSq, wiEn, wiZip, gN, gT1, gT2, gT3, gT4, gT5, gT6, gT7, wYes, gAdd, DV.gSub, gMul, gMod, gDiv, gPow, gLt, gLe, gGt, gGe, gCmp, gEq, gNe, gIs, gIsN, DV.isNon, gIn, gNotIn, gIx, gSlc, wSlc, wNoP, wPart, gLen, gAbs, gInt, gMin2, gMax2, gAll, gAny, gSum, gTuple, wNeg, wRev, itemsOf, D.isTy, D.isHand, Sl.toD, big_0, big_1, big_2, big_3, big_4, big_5, big_6, big_7, big_8, big_9, big_10, big_11, big_12, draw_iff, own_ex, val_ex, wipeE, restE, Sl.keep, Option.getD_some, get_z, get_s, set_z, set_s, List.length_cons, List.length_nil, atI_0, atI_1, atI_2, atI_3, atI_4, ixN_5_0, ixN_5_1, ixN_5_2, ixN_5_3, ixN_5_4, D.bl.injEq, D.int.injEq, D.lst.injEq, D.tup.injEq, D.str.injEq, Sl.own.injEq, Sl.val.injEq, Option.some.injEq, exists_eq_left', exists_eq_left, exists_eq', exists_eq, or_true, true_or, or_false, false_or, CMul, CPow, natAbs_10, natAbs_2, Int.cast_ofNat_Int, Nat.reducePow, exists_and_left, exists_const, and_assoc, true_and, and_true, and_self, false_and, and_false, if_true, if_false, ite_true, ite_false, reduceCtorEq, decide_true, decide_false, decide_eq_true_eq, decide_eq_false_iff_not, Bool.not_true, Bool.not_false, Bool.false_eq_true, List.replicate_zero, List.replicate_succ, List.map_cons, List.map_nil, List.nil_append, List.cons_append, Nat.reduceSub, Nat.reduceAdd, Nat.reduceLeDiff, Nat.reduceLT, Int.reduceLT, Int.reduceLE, Int.reduceAdd, Int.reduceSub, Int.reduceMul, Int.reduceNeg, Int.reduceMod, Int.reduceDiv, Int.reducePow, Int.reduceToNat, okD_int, okD_bl, okD_lst, okD_tup, okD_non, okL_nil, okL_cons, okD_str, okL_int, eqD_int, eqD_bl, eqD_str, eqD_tup, eqD_lst, eqL_cons, eqL_nil, eqL_cn, eqL_nc, eqL_int, Bool.and_eq_true, Bool.or_eq_true, Bool.not_eq_true', Bool.and_false, Bool.false_and, Bool.or_false, Bool.false_or, Bool.or_true, Bool.true_or, Bool.and_true, Bool.true_and, Bool.and_self, wIsT2, wDct0, wLstOf, wRepF, wAsgH, DV.hN, hIx, hCons, hNil, hTup, wLM, gCnt, gIdx, gList, gSorted, wAppPop, wRaise0, wRaise1, wTry, wIsE, wAct, wFl, flD, okD_bl, ok_nu, ok_we]
  exact fun _ => h _
theorem sp_lam {F : Fl} {Tb : DV.Tm} {env : DV.Env} {Q : D → DV.Env → Prop} {E' : Ex} (h : F (fun Q' E' => Tb env (fun d e => e = env ∧ Q' d) (fun er e => e = env ∧ E' er)) (fun d => Q d env)) : wLam F Tb env Q E' := h
theorem r8 {s3 s4 : Sl} {bad : D} {q : Addr} {P : Post} (h : ∀ e, P.rt (.bl true) e) : B__law_are_refused_8 [.val .hand, .val (.lst odd), .val bad, s3, s4, .own q [.str "number", .str "number", .str "weights", .str "weights"]] P := by
  unfold B__law_are_refused_8
  (try simp only [wSeq, wAsg, wOwn, wF, wLc, wSkip, wBrk, wCnt, wRet, wRetF, wRetN, wDrop, wIfS, wPar, wFor, wWh, wV, wApp, wExt, wSetIx, wAug, wVal, wLook, wC, wOp, wTst, wChain, wAnd, wOr, wNot, wAndV, wOrV, wNotV, wIf, wNil, wCons, wTup, wLst, wCall, wCB, wIsT, wiR1, wiR2, wiSq, wiEn, wiZip, gN, gT1, gT2, gT3, gT4, gT5, gT6, gT7, wYes, gAdd, DV.gSub, gMul, gMod, gDiv, gPow, gLt, gLe, gGt, gGe, gCmp, gEq, gNe, gIs, gIsN, DV.isNon, gIn, gNotIn, gIx, gSlc, wSlc, wNoP, wPart, gLen, gAbs, gInt, gMin2, gMax2, gAll, gAny, gSum, gTuple, wNeg, wRev, itemsOf, D.isTy, D.isHand, Sl.toD, big_0, big_1, big_2, big_3, big_4, big_5, big_6, big_7, big_8, big_9, big_10, big_11, big_12, draw_iff, own_ex, val_ex, wipeE, restE, Sl.keep, Option.getD_some, get_z, get_s, set_z, set_s, List.length_cons, List.length_nil, atI_0, atI_1, atI_2, atI_3, atI_4, ixN_5_0, ixN_5_1, ixN_5_2, ixN_5_3, ixN_5_4, D.bl.injEq, D.int.injEq, D.lst.injEq, D.tup.injEq, D.str.injEq, Sl.own.injEq, Sl.val.injEq, Option.some.injEq, exists_eq_left', exists_eq_left, exists_eq', exists_eq, or_true, true_or, or_false, false_or, CMul, CPow, natAbs_10, natAbs_2, Int.cast_ofNat_Int, Nat.reducePow, exists_and_left, exists_const, and_assoc, true_and, and_true, and_self, false_and, and_false, if_true, if_false, ite_true, ite_false, reduceCtorEq, decide_true, decide_false, decide_eq_true_eq, decide_eq_false_iff_not, Bool.not_true, Bool.not_false, Bool.false_eq_true, List.replicate_zero, List.replicate_succ, List.map_cons, List.map_nil, List.nil_append, List.cons_append, Nat.reduceSub, Nat.reduceAdd, Nat.reduceLeDiff, Nat.reduceLT, Int.reduceLT, Int.reduceLE, Int.reduceAdd, Int.reduceSub, Int.reduceMul, Int.reduceNeg, Int.reduceMod, Int.reduceDiv, Int.reducePow, Int.reduceToNat, okD_int, okD_bl, okD_lst, okD_tup, okD_non, okL_nil, okL_cons, okD_str, okL_int, eqD_int, eqD_bl, eqD_str, eqD_tup, eqD_lst, eqL_cons, eqL_nil, eqL_cn, eqL_nc, eqL_int, Bool.and_eq_true, Bool.or_eq_true, Bool.not_eq_true', Bool.and_false, Bool.false_and, Bool.or_false, Bool.false_or, Bool.or_true, Bool.true_or, Bool.and_true, Bool.true_and, Bool.and_self, wIsT2, wDct0, wLstOf, wRepF, wAsgH, DV.hN, hIx, hCons, hNil, hTup, wLM, gCnt, gIdx, gList, gSorted, wAppPop, wRaise0, wRaise1, wTry, wIsE, wAct, wFl, flD, okD_bl])
  refine sp_lam (sp_word_n (fun Q' E' he => ?_) ?_)
  · (try simp only [wSeq, wAsg, wOwn, wF, wLc, wSkip, wBrk, wCnt, wRet, wRetF, wRetN, wDrop, wIfS, wPar, wFor, wWh, wV, wApp, wExt, wSetIx, wAug, wVal, wLook, wC, wOp, wTst, wChain, wAnd, wOr, wNot, wAndV, wOrV, wNotV, wIf, wNil, wCons, wTup, wLst, wCall, wCB, wIsT, wiR1, wiR2, wiSq, wiEn, wiZip, gN, gT1, gT2, gT3, gT4, gT5, gT6, gT7, wYes, gAdd, DV.gSub, gMul, gMod, gDiv, gPow, gLt, gLe, gGt, gGe, gCmp, gEq, gNe, gIs, gIsN, DV.isNon, gIn, gNotIn, gIx, gSlc, wSlc, wNoP, wPart, gLen, gAbs, gInt, gMin2, gMax2, gAll, gAny, gSum, gTuple, wNeg, wRev, itemsOf, D.isTy, D.isHand, Sl.toD, big_0, big_1, big_2, big_3, big_4, big_5, big_6, big_7, big_8, big_9, big_10, big_11, big_12, draw_iff, own_ex, val_ex, wipeE, restE, Sl.keep, Option.getD_some, get_z, get_s, set_z, set_s, List.length_cons, List.length_nil, atI_0, atI_1, atI_2, atI_3, atI_4, ixN_5_0, ixN_5_1, ixN_5_2, ixN_5_3, ixN_5_4, D.bl.injEq, D.int.injEq, D.lst.injEq, D.tup.injEq, D.str.injEq, Sl.own.injEq, Sl.val.injEq, Option.some.injEq, exists_eq_left', exists_eq_left, exists_eq', exists_eq, or_true, true_or, or_false, false_or, CMul, CPow, natAbs_10, natAbs_2, Int.cast_ofNat_Int, Nat.reducePow, exists_and_left, exists_const, and_assoc, true_and, and_true, and_self, false_and, and_false, if_true, if_false, ite_true, ite_false, reduceCtorEq, decide_true, decide_false, decide_eq_true_eq, decide_eq_false_iff_not, Bool.not_true, Bool.not_false, Bool.false_eq_true, List.replicate_zero, List.replicate_succ, List.map_cons, List.map_nil, List.nil_append, List.cons_append, Nat.reduceSub, Nat.reduceAdd, Nat.reduceLeDiff, Nat.reduceLT, Int.reduceLT, Int.reduceLE, Int.reduceAdd, Int.reduceSub, Int.reduceMul, Int.reduceNeg, Int.reduceMod, Int.reduceDiv, Int.reducePow, Int.reduceToNat, okD_int, okD_bl, okD_lst, okD_tup, okD_non, okL_nil, okL_cons, okD_str, okL_int, eqD_int, eqD_bl, eqD_str, eqD_tup, eqD_lst, eqL_cons, eqL_nil, eqL_cn, eqL_nc, eqL_int, Bool.and_eq_true, Bool.or_eq_true, Bool.not_eq_true', Bool.and_false, Bool.false_and, Bool.or_false, Bool.false_or, Bool.or_true, Bool.true_or, Bool.and_true, Bool.true_and, Bool.and_self, wIsT2, wDct0, wLstOf, wRepF, wAsgH, DV.hN, hIx, hCons, hNil, hTup, wLM, gCnt, gIdx, gList, gSorted, wAppPop, wRaise0, wRaise1, wTry, wIsE, wAct, wFl, flD, okD_bl])
    refine fun _ => sp_some (by decide) (by decide) fun x hx => ?_
    have hx2 : badN 1 24 x := badN_app (badN_5 (by decide) (by decide)) (fun x hx => by
      simp only [List.mem_cons, List.not_mem_nil, or_false] at hx
      rcases hx with rfl | rfl <;> exact badN_one (by decide)) x hx
    (try simp only [wSeq, wAsg, wOwn, wF, wLc, wSkip, wBrk, wCnt, wRet, wRetF, wRetN, wDrop, wIfS, wPar, wFor, wWh, wV, wApp, wExt, wSetIx, wAug, wVal, wLook, wC, wOp, wTst, wChain, wAnd, wOr, wNot, wAndV, wOrV, wNotV, wIf, wNil, wCons, wTup, wLst, wCall, wCB, wIsT, wiR1, wiR2, wiSq, wiEn, wiZip, gN, gT1, gT2, gT3, gT4, gT5, gT6, gT7, wYes, gAdd, DV.gSub, gMul, gMod, gDiv, gPow, gLt, gLe, gGt, gGe, gCmp, gEq, gNe, gIs, gIsN, DV.isNon, gIn, gNotIn, gIx, gSlc, wSlc, wNoP, wPart, gLen, gAbs, gInt, gMin2, gMax2, gAll, gAny, gSum, gTuple, wNeg, wRev, itemsOf, D.isTy, D.isHand, Sl.toD, big_0, big_1, big_2, big_3, big_4, big_5, big_6, big_7, big_8, big_9, big_10, big_11, big_12, draw_iff, own_ex, val_ex, wipeE, restE, Sl.keep, Option.getD_some, get_z, get_s, set_z, set_s, List.length_cons, List.length_nil, atI_0, atI_1, atI_2, atI_3, atI_4, ixN_5_0, ixN_5_1, ixN_5_2, ixN_5_3, ixN_5_4, D.bl.injEq, D.int.injEq, D.lst.injEq, D.tup.injEq, D.str.injEq, Sl.own.injEq, Sl.val.injEq, Option.some.injEq, exists_eq_left', exists_eq_left, exists_eq', exists_eq, or_true, true_or, or_false, false_or, CMul, CPow, natAbs_10, natAbs_2, Int.cast_ofNat_Int, Nat.reducePow, exists_and_left, exists_const, and_assoc, true_and, and_true, and_self, false_and, and_false, if_true, if_false, ite_true, ite_false, reduceCtorEq, decide_true, decide_false, decide_eq_true_eq, decide_eq_false_iff_not, Bool.not_true, Bool.not_false, Bool.false_eq_true, List.replicate_zero, List.replicate_succ, List.map_cons, List.map_nil, List.nil_append, List.cons_append, Nat.reduceSub, Nat.reduceAdd, Nat.reduceLeDiff, Nat.reduceLT, Int.reduceLT, Int.reduceLE, Int.reduceAdd, Int.reduceSub, Int.reduceMul, Int.reduceNeg, Int.reduceMod, Int.reduceDiv, Int.reducePow, Int.reduceToNat, okD_int, okD_bl, okD_lst, okD_tup, okD_non, okL_nil, okL_cons, okD_str, okL_int, eqD_int, eqD_bl, eqD_str, eqD_tup, eqD_lst, eqL_cons, eqL_nil, eqL_cn, eqL_nc, eqL_int, Bool.and_eq_true, Bool.or_eq_true, Bool.not_eq_true', Bool.and_false, Bool.false_and, Bool.or_false, Bool.false_or, Bool.or_true, Bool.true_or, Bool.and_true, Bool.true_and, Bool.and_self, wIsT2, wDct0, wLstOf, wRepF, wAsgH, DV.hN, hIx, hCons, hNil, hTup, wLM, gCnt, gIdx, gList, gSorted, wAppPop, wRaise0, wRaise1, wTry, wIsE, wAct, wFl, flD, okD_bl])
    unfold T_swap_told wFn B_swap_told
    (try simp only [wSeq, wAsg, wOwn, wF, wLc, wSkip, wBrk, wCnt, wRet, wRetF, wRetN, wDrop, wIfS, wPar, wFor, wWh, wV, wApp, wExt, wSetIx, wAug, wVal, wLook, wC, wOp, wTst, wChain, wAnd, wOr, wNot, wAndV, wOrV, wNotV, wIf, wNil, wCons, wTup, wLst, wCall, wCB, wIsT, wiR1, wiR2, wiSq, wiEn, wiZip, gN, gT1, gT2, gT3, gT4, gT5, gT6, gT7, wYes, gAdd, DV.gSub, gMul, gMod, gDiv, gPow, gLt, gLe, gGt, gGe, gCmp, gEq, gNe, gIs, gIsN, DV.isNon, gIn, gNotIn, gIx, gSlc, wSlc, wNoP, wPart, gLen, gAbs, gInt, gMin2, gMax2, gAll, gAny, gSum, gTuple, wNeg, wRev, itemsOf, D.isTy, D.isHand, Sl.toD, big_0, big_1, big_2, big_3, big_4, big_5, big_6, big_7, big_8, big_9, big_10, big_11, big_12, draw_iff, own_ex, val_ex, wipeE, restE, Sl.keep, Option.getD_some, get_z, get_s, set_z, set_s, List.length_cons, List.length_nil, atI_0, atI_1, atI_2, atI_3, atI_4, ixN_5_0, ixN_5_1, ixN_5_2, ixN_5_3, ixN_5_4, D.bl.injEq, D.int.injEq, D.lst.injEq, D.tup.injEq, D.str.injEq, Sl.own.injEq, Sl.val.injEq, Option.some.injEq, exists_eq_left', exists_eq_left, exists_eq', exists_eq, or_true, true_or, or_false, false_or, CMul, CPow, natAbs_10, natAbs_2, Int.cast_ofNat_Int, Nat.reducePow, exists_and_left, exists_const, and_assoc, true_and, and_true, and_self, false_and, and_false, if_true, if_false, ite_true, ite_false, reduceCtorEq, decide_true, decide_false, decide_eq_true_eq, decide_eq_false_iff_not, Bool.not_true, Bool.not_false, Bool.false_eq_true, List.replicate_zero, List.replicate_succ, List.map_cons, List.map_nil, List.nil_append, List.cons_append, Nat.reduceSub, Nat.reduceAdd, Nat.reduceLeDiff, Nat.reduceLT, Int.reduceLT, Int.reduceLE, Int.reduceAdd, Int.reduceSub, Int.reduceMul, Int.reduceNeg, Int.reduceMod, Int.reduceDiv, Int.reducePow, Int.reduceToNat, okD_int, okD_bl, okD_lst, okD_tup, okD_non, okL_nil, okL_cons, okD_str, okL_int, eqD_int, eqD_bl, eqD_str, eqD_tup, eqD_lst, eqL_cons, eqL_nil, eqL_cn, eqL_nc, eqL_int, Bool.and_eq_true, Bool.or_eq_true, Bool.not_eq_true', Bool.and_false, Bool.false_and, Bool.or_false, Bool.false_or, Bool.or_true, Bool.true_or, Bool.and_true, Bool.true_and, Bool.and_self, wIsT2, wDct0, wLstOf, wRepF, wAsgH, DV.hN, hIx, hCons, hNil, hTup, wLM, gCnt, gIdx, gList, gSorted, wAppPop, wRaise0, wRaise1, wTry, wIsE, wAct, wFl, flD, okD_bl])
    refine sp_cw c37 (x := .tup [.int 1, .int 2]) rfl (fun xs e d hd => ?_) (fun _ => ?_) (fun hh => ?_)
    · cases e
      simp only [List.mem_cons, List.not_mem_nil, or_false] at hd
      rcases hd with rfl | rfl <;> rfl
    · unfold B_swap_told_2
      simp only [wSeq, wAsg, wOwn, wF, wLc, wSkip, wBrk, wCnt, wRet, wRetF, wRetN, wDrop, wIfS, wPar, wFor, wWh, wV, wApp, wExt, wSetIx, wAug, wVal, wLook, wC, wOp, wTst, wChain, wAnd, wOr, wNot, wAndV, wOrV, wNotV, wIf, wNil, wCons, wTup, wLst, wCall, wCB, wIsT, wiR1, wiR2, wiSq, wiEn, wiZip, gN, gT1, gT2, gT3, gT4, gT5, gT6, gT7, wYes, gAdd, DV.gSub, gMul, gMod, gDiv, gPow, gLt, gLe, gGt, gGe, gCmp, gEq, gNe, gIs, gIsN, DV.isNon, gIn, gNotIn, gIx, gSlc, wSlc, wNoP, wPart, gLen, gAbs, gInt, gMin2, gMax2, gAll, gAny, gSum, gTuple, wNeg, wRev, itemsOf, D.isTy, D.isHand, Sl.toD, big_0, big_1, big_2, big_3, big_4, big_5, big_6, big_7, big_8, big_9, big_10, big_11, big_12, draw_iff, own_ex, val_ex, wipeE, restE, Sl.keep, Option.getD_some, get_z, get_s, set_z, set_s, List.length_cons, List.length_nil, atI_0, atI_1, atI_2, atI_3, atI_4, ixN_5_0, ixN_5_1, ixN_5_2, ixN_5_3, ixN_5_4, D.bl.injEq, D.int.injEq, D.lst.injEq, D.tup.injEq, D.str.injEq, Sl.own.injEq, Sl.val.injEq, Option.some.injEq, exists_eq_left', exists_eq_left, exists_eq', exists_eq, or_true, true_or, or_false, false_or, CMul, CPow, natAbs_10, natAbs_2, Int.cast_ofNat_Int, Nat.reducePow, exists_and_left, exists_const, and_assoc, true_and, and_true, and_self, false_and, and_false, if_true, if_false, ite_true, ite_false, reduceCtorEq, decide_true, decide_false, decide_eq_true_eq, decide_eq_false_iff_not, Bool.not_true, Bool.not_false, Bool.false_eq_true, List.replicate_zero, List.replicate_succ, List.map_cons, List.map_nil, List.nil_append, List.cons_append, Nat.reduceSub, Nat.reduceAdd, Nat.reduceLeDiff, Nat.reduceLT, Int.reduceLT, Int.reduceLE, Int.reduceAdd, Int.reduceSub, Int.reduceMul, Int.reduceNeg, Int.reduceMod, Int.reduceDiv, Int.reducePow, Int.reduceToNat, okD_int, okD_bl, okD_lst, okD_tup, okD_non, okL_nil, okL_cons, okD_str, okL_int, eqD_int, eqD_bl, eqD_str, eqD_tup, eqD_lst, eqL_cons, eqL_nil, eqL_cn, eqL_nc, eqL_int, Bool.and_eq_true, Bool.or_eq_true, Bool.not_eq_true', Bool.and_false, Bool.false_and, Bool.or_false, Bool.false_or, Bool.or_true, Bool.true_or, Bool.and_true, Bool.true_and, Bool.and_self, wIsT2, wDct0, wLstOf, wRepF, wAsgH, DV.hN, hIx, hCons, hNil, hTup, wLM, gCnt, gIdx, gList, gSorted, wAppPop, wRaise0, wRaise1, wTry, wIsE, wAct, wFl, flD, okD_bl, sp_check_number hx2.1, hx2.2]
      exact he
    · rw [show okW 7 (.tup [.int 1, .int 2]) = true from w12.ok] at hh
      cases hh
  · (try simp only [wSeq, wAsg, wOwn, wF, wLc, wSkip, wBrk, wCnt, wRet, wRetF, wRetN, wDrop, wIfS, wPar, wFor, wWh, wV, wApp, wExt, wSetIx, wAug, wVal, wLook, wC, wOp, wTst, wChain, wAnd, wOr, wNot, wAndV, wOrV, wNotV, wIf, wNil, wCons, wTup, wLst, wCall, wCB, wIsT, wiR1, wiR2, wiSq, wiEn, wiZip, gN, gT1, gT2, gT3, gT4, gT5, gT6, gT7, wYes, gAdd, DV.gSub, gMul, gMod, gDiv, gPow, gLt, gLe, gGt, gGe, gCmp, gEq, gNe, gIs, gIsN, DV.isNon, gIn, gNotIn, gIx, gSlc, wSlc, wNoP, wPart, gLen, gAbs, gInt, gMin2, gMax2, gAll, gAny, gSum, gTuple, wNeg, wRev, itemsOf, D.isTy, D.isHand, Sl.toD, big_0, big_1, big_2, big_3, big_4, big_5, big_6, big_7, big_8, big_9, big_10, big_11, big_12, draw_iff, own_ex, val_ex, wipeE, restE, Sl.keep, Option.getD_some, get_z, get_s, set_z, set_s, List.length_cons, List.length_nil, atI_0, atI_1, atI_2, atI_3, atI_4, ixN_5_0, ixN_5_1, ixN_5_2, ixN_5_3, ixN_5_4, D.bl.injEq, D.int.injEq, D.lst.injEq, D.tup.injEq, D.str.injEq, Sl.own.injEq, Sl.val.injEq, Option.some.injEq, exists_eq_left', exists_eq_left, exists_eq', exists_eq, or_true, true_or, or_false, false_or, CMul, CPow, natAbs_10, natAbs_2, Int.cast_ofNat_Int, Nat.reducePow, exists_and_left, exists_const, and_assoc, true_and, and_true, and_self, false_and, and_false, if_true, if_false, ite_true, ite_false, reduceCtorEq, decide_true, decide_false, decide_eq_true_eq, decide_eq_false_iff_not, Bool.not_true, Bool.not_false, Bool.false_eq_true, List.replicate_zero, List.replicate_succ, List.map_cons, List.map_nil, List.nil_append, List.cons_append, Nat.reduceSub, Nat.reduceAdd, Nat.reduceLeDiff, Nat.reduceLT, Int.reduceLT, Int.reduceLE, Int.reduceAdd, Int.reduceSub, Int.reduceMul, Int.reduceNeg, Int.reduceMod, Int.reduceDiv, Int.reducePow, Int.reduceToNat, okD_int, okD_bl, okD_lst, okD_tup, okD_non, okL_nil, okL_cons, okD_str, okL_int, eqD_int, eqD_bl, eqD_str, eqD_tup, eqD_lst, eqL_cons, eqL_nil, eqL_cn, eqL_nc, eqL_int, Bool.and_eq_true, Bool.or_eq_true, Bool.not_eq_true', Bool.and_false, Bool.false_and, Bool.or_false, Bool.false_or, Bool.or_true, Bool.true_or, Bool.and_true, Bool.true_and, Bool.and_self, wIsT2, wDct0, wLstOf, wRepF, wAsgH, DV.hN, hIx, hCons, hNil, hTup, wLM, gCnt, gIdx, gList, gSorted, wAppPop, wRaise0, wRaise1, wTry, wIsE, wAct, wFl, flD, okD_bl])
    exact ⟨by decide, r9 h⟩
theorem r7 {s3 s4 : Sl} {bad : D} (hb : badW bad) {q : Addr} {P : Post} (h : ∀ e, P.rt (.bl true) e) : B__law_are_refused_7 [.val .hand, .val (.lst odd), .val bad, s3, s4, .own q [.str "number", .str "number", .str "weights"]] P := by
  obtain ⟨w1, w2, w3⟩ := hb
  unfold B__law_are_refused_7
  (try simp only [wSeq, wAsg, wOwn, wF, wLc, wSkip, wBrk, wCnt, wRet, wRetF, wRetN, wDrop, wIfS, wPar, wFor, wWh, wV, wApp, wExt, wSetIx, wAug, wVal, wLook, wC, wOp, wTst, wChain, wAnd, wOr, wNot, wAndV, wOrV, wNotV, wIf, wNil, wCons, wTup, wLst, wCall, wCB, wIsT, wiR1, wiR2, wiSq, wiEn, wiZip, gN, gT1, gT2, gT3, gT4, gT5, gT6, gT7, wYes, gAdd, DV.gSub, gMul, gMod, gDiv, gPow, gLt, gLe, gGt, gGe, gCmp, gEq, gNe, gIs, gIsN, DV.isNon, gIn, gNotIn, gIx, gSlc, wSlc, wNoP, wPart, gLen, gAbs, gInt, gMin2, gMax2, gAll, gAny, gSum, gTuple, wNeg, wRev, itemsOf, D.isTy, D.isHand, Sl.toD, big_0, big_1, big_2, big_3, big_4, big_5, big_6, big_7, big_8, big_9, big_10, big_11, big_12, draw_iff, own_ex, val_ex, wipeE, restE, Sl.keep, Option.getD_some, get_z, get_s, set_z, set_s, List.length_cons, List.length_nil, atI_0, atI_1, atI_2, atI_3, atI_4, ixN_5_0, ixN_5_1, ixN_5_2, ixN_5_3, ixN_5_4, D.bl.injEq, D.int.injEq, D.lst.injEq, D.tup.injEq, D.str.injEq, Sl.own.injEq, Sl.val.injEq, Option.some.injEq, exists_eq_left', exists_eq_left, exists_eq', exists_eq, or_true, true_or, or_false, false_or, CMul, CPow, natAbs_10, natAbs_2, Int.cast_ofNat_Int, Nat.reducePow, exists_and_left, exists_const, and_assoc, true_and, and_true, and_self, false_and, and_false, if_true, if_false, ite_true, ite_false, reduceCtorEq, decide_true, decide_false, decide_eq_true_eq, decide_eq_false_iff_not, Bool.not_true, Bool.not_false, Bool.false_eq_true, List.replicate_zero, List.replicate_succ, List.map_cons, List.map_nil, List.nil_append, List.cons_append, Nat.reduceSub, Nat.reduceAdd, Nat.reduceLeDiff, Nat.reduceLT, Int.reduceLT, Int.reduceLE, Int.reduceAdd, Int.reduceSub, Int.reduceMul, Int.reduceNeg, Int.reduceMod, Int.reduceDiv, Int.reducePow, Int.reduceToNat, okD_int, okD_bl, okD_lst, okD_tup, okD_non, okL_nil, okL_cons, okD_str, okL_int, eqD_int, eqD_bl, eqD_str, eqD_tup, eqD_lst, eqL_cons, eqL_nil, eqL_cn, eqL_nc, eqL_int, Bool.and_eq_true, Bool.or_eq_true, Bool.not_eq_true', Bool.and_false, Bool.false_and, Bool.or_false, Bool.false_or, Bool.or_true, Bool.true_or, Bool.and_true, Bool.true_and, Bool.and_self, wIsT2, wDct0, wLstOf, wRepF, wAsgH, DV.hN, hIx, hCons, hNil, hTup, wLM, gCnt, gIdx, gList, gSorted, wAppPop, wRaise0, wRaise1, wTry, wIsE, wAct, wFl, flD, okD_bl])
  refine sp_lam (sp_word_w (fun Q' E' he => ?_) ?_)
  · (try simp only [wSeq, wAsg, wOwn, wF, wLc, wSkip, wBrk, wCnt, wRet, wRetF, wRetN, wDrop, wIfS, wPar, wFor, wWh, wV, wApp, wExt, wSetIx, wAug, wVal, wLook, wC, wOp, wTst, wChain, wAnd, wOr, wNot, wAndV, wOrV, wNotV, wIf, wNil, wCons, wTup, wLst, wCall, wCB, wIsT, wiR1, wiR2, wiSq, wiEn, wiZip, gN, gT1, gT2, gT3, gT4, gT5, gT6, gT7, wYes, gAdd, DV.gSub, gMul, gMod, gDiv, gPow, gLt, gLe, gGt, gGe, gCmp, gEq, gNe, gIs, gIsN, DV.isNon, gIn, gNotIn, gIx, gSlc, wSlc, wNoP, wPart, gLen, gAbs, gInt, gMin2, gMax2, gAll, gAny, gSum, gTuple, wNeg, wRev, itemsOf, D.isTy, D.isHand, Sl.toD, big_0, big_1, big_2, big_3, big_4, big_5, big_6, big_7, big_8, big_9, big_10, big_11, big_12, draw_iff, own_ex, val_ex, wipeE, restE, Sl.keep, Option.getD_some, get_z, get_s, set_z, set_s, List.length_cons, List.length_nil, atI_0, atI_1, atI_2, atI_3, atI_4, ixN_5_0, ixN_5_1, ixN_5_2, ixN_5_3, ixN_5_4, D.bl.injEq, D.int.injEq, D.lst.injEq, D.tup.injEq, D.str.injEq, Sl.own.injEq, Sl.val.injEq, Option.some.injEq, exists_eq_left', exists_eq_left, exists_eq', exists_eq, or_true, true_or, or_false, false_or, CMul, CPow, natAbs_10, natAbs_2, Int.cast_ofNat_Int, Nat.reducePow, exists_and_left, exists_const, and_assoc, true_and, and_true, and_self, false_and, and_false, if_true, if_false, ite_true, ite_false, reduceCtorEq, decide_true, decide_false, decide_eq_true_eq, decide_eq_false_iff_not, Bool.not_true, Bool.not_false, Bool.false_eq_true, List.replicate_zero, List.replicate_succ, List.map_cons, List.map_nil, List.nil_append, List.cons_append, Nat.reduceSub, Nat.reduceAdd, Nat.reduceLeDiff, Nat.reduceLT, Int.reduceLT, Int.reduceLE, Int.reduceAdd, Int.reduceSub, Int.reduceMul, Int.reduceNeg, Int.reduceMod, Int.reduceDiv, Int.reducePow, Int.reduceToNat, okD_int, okD_bl, okD_lst, okD_tup, okD_non, okL_nil, okL_cons, okD_str, okL_int, eqD_int, eqD_bl, eqD_str, eqD_tup, eqD_lst, eqL_cons, eqL_nil, eqL_cn, eqL_nc, eqL_int, Bool.and_eq_true, Bool.or_eq_true, Bool.not_eq_true', Bool.and_false, Bool.false_and, Bool.or_false, Bool.false_or, Bool.or_true, Bool.true_or, Bool.and_true, Bool.true_and, Bool.and_self, wIsT2, wDct0, wLstOf, wRepF, wAsgH, DV.hN, hIx, hCons, hNil, hTup, wLM, gCnt, gIdx, gList, gSorted, wAppPop, wRaise0, wRaise1, wTry, wIsE, wAct, wFl, flD, okD_bl])
    refine swap_bad (e := ("NoWeights", [])) (fun Q E he => sp_cw c37 w1 w2 (fun hh => ?_) fun _ => he) he
    rw [w3] at hh; cases hh
  · (try simp only [wSeq, wAsg, wOwn, wF, wLc, wSkip, wBrk, wCnt, wRet, wRetF, wRetN, wDrop, wIfS, wPar, wFor, wWh, wV, wApp, wExt, wSetIx, wAug, wVal, wLook, wC, wOp, wTst, wChain, wAnd, wOr, wNot, wAndV, wOrV, wNotV, wIf, wNil, wCons, wTup, wLst, wCall, wCB, wIsT, wiR1, wiR2, wiSq, wiEn, wiZip, gN, gT1, gT2, gT3, gT4, gT5, gT6, gT7, wYes, gAdd, DV.gSub, gMul, gMod, gDiv, gPow, gLt, gLe, gGt, gGe, gCmp, gEq, gNe, gIs, gIsN, DV.isNon, gIn, gNotIn, gIx, gSlc, wSlc, wNoP, wPart, gLen, gAbs, gInt, gMin2, gMax2, gAll, gAny, gSum, gTuple, wNeg, wRev, itemsOf, D.isTy, D.isHand, Sl.toD, big_0, big_1, big_2, big_3, big_4, big_5, big_6, big_7, big_8, big_9, big_10, big_11, big_12, draw_iff, own_ex, val_ex, wipeE, restE, Sl.keep, Option.getD_some, get_z, get_s, set_z, set_s, List.length_cons, List.length_nil, atI_0, atI_1, atI_2, atI_3, atI_4, ixN_5_0, ixN_5_1, ixN_5_2, ixN_5_3, ixN_5_4, D.bl.injEq, D.int.injEq, D.lst.injEq, D.tup.injEq, D.str.injEq, Sl.own.injEq, Sl.val.injEq, Option.some.injEq, exists_eq_left', exists_eq_left, exists_eq', exists_eq, or_true, true_or, or_false, false_or, CMul, CPow, natAbs_10, natAbs_2, Int.cast_ofNat_Int, Nat.reducePow, exists_and_left, exists_const, and_assoc, true_and, and_true, and_self, false_and, and_false, if_true, if_false, ite_true, ite_false, reduceCtorEq, decide_true, decide_false, decide_eq_true_eq, decide_eq_false_iff_not, Bool.not_true, Bool.not_false, Bool.false_eq_true, List.replicate_zero, List.replicate_succ, List.map_cons, List.map_nil, List.nil_append, List.cons_append, Nat.reduceSub, Nat.reduceAdd, Nat.reduceLeDiff, Nat.reduceLT, Int.reduceLT, Int.reduceLE, Int.reduceAdd, Int.reduceSub, Int.reduceMul, Int.reduceNeg, Int.reduceMod, Int.reduceDiv, Int.reducePow, Int.reduceToNat, okD_int, okD_bl, okD_lst, okD_tup, okD_non, okL_nil, okL_cons, okD_str, okL_int, eqD_int, eqD_bl, eqD_str, eqD_tup, eqD_lst, eqL_cons, eqL_nil, eqL_cn, eqL_nc, eqL_int, Bool.and_eq_true, Bool.or_eq_true, Bool.not_eq_true', Bool.and_false, Bool.false_and, Bool.or_false, Bool.false_or, Bool.or_true, Bool.true_or, Bool.and_true, Bool.true_and, Bool.and_self, wIsT2, wDct0, wLstOf, wRepF, wAsgH, DV.hN, hIx, hCons, hNil, hTup, wLM, gCnt, gIdx, gList, gSorted, wAppPop, wRaise0, wRaise1, wTry, wIsE, wAct, wFl, flD, okD_bl])
    exact ⟨by decide, r8 h⟩
theorem r6 {s3 s4 : Sl} {bad : D} (hb : badW bad) {q : Addr} {P : Post} (h : ∀ e, P.rt (.bl true) e) : B__law_are_refused_6 [.val .hand, .val (.lst odd), .val bad, s3, s4, .own q [.str "number", .str "number"]] P := by
  have hb0 := hb
  obtain ⟨w1, w2, w3⟩ := hb
  unfold B__law_are_refused_6
  (try simp only [wSeq, wAsg, wOwn, wF, wLc, wSkip, wBrk, wCnt, wRet, wRetF, wRetN, wDrop, wIfS, wPar, wFor, wWh, wV, wApp, wExt, wSetIx, wAug, wVal, wLook, wC, wOp, wTst, wChain, wAnd, wOr, wNot, wAndV, wOrV, wNotV, wIf, wNil, wCons, wTup, wLst, wCall, wCB, wIsT, wiR1, wiR2, wiSq, wiEn, wiZip, gN, gT1, gT2, gT3, gT4, gT5, gT6, gT7, wYes, gAdd, DV.gSub, gMul, gMod, gDiv, gPow, gLt, gLe, gGt, gGe, gCmp, gEq, gNe, gIs, gIsN, DV.isNon, gIn, gNotIn, gIx, gSlc, wSlc, wNoP, wPart, gLen, gAbs, gInt, gMin2, gMax2, gAll, gAny, gSum, gTuple, wNeg, wRev, itemsOf, D.isTy, D.isHand, Sl.toD, big_0, big_1, big_2, big_3, big_4, big_5, big_6, big_7, big_8, big_9, big_10, big_11, big_12, draw_iff, own_ex, val_ex, wipeE, restE, Sl.keep, Option.getD_some, get_z, get_s, set_z, set_s, List.length_cons, List.length_nil, atI_0, atI_1, atI_2, atI_3, atI_4, ixN_5_0, ixN_5_1, ixN_5_2, ixN_5_3, ixN_5_4, D.bl.injEq, D.int.injEq, D.lst.injEq, D.tup.injEq, D.str.injEq, Sl.own.injEq, Sl.val.injEq, Option.some.injEq, exists_eq_left', exists_eq_left, exists_eq', exists_eq, or_true, true_or, or_false, false_or, CMul, CPow, natAbs_10, natAbs_2, Int.cast_ofNat_Int, Nat.reducePow, exists_and_left, exists_const, and_assoc, true_and, and_true, and_self, false_and, and_false, if_true, if_false, ite_true, ite_false, reduceCtorEq, decide_true, decide_false, decide_eq_true_eq, decide_eq_false_iff_not, Bool.not_true, Bool.not_false, Bool.false_eq_true, List.replicate_zero, List.replicate_succ, List.map_cons, List.map_nil, List.nil_append, List.cons_append, Nat.reduceSub, Nat.reduceAdd, Nat.reduceLeDiff, Nat.reduceLT, Int.reduceLT, Int.reduceLE, Int.reduceAdd, Int.reduceSub, Int.reduceMul, Int.reduceNeg, Int.reduceMod, Int.reduceDiv, Int.reducePow, Int.reduceToNat, okD_int, okD_bl, okD_lst, okD_tup, okD_non, okL_nil, okL_cons, okD_str, okL_int, eqD_int, eqD_bl, eqD_str, eqD_tup, eqD_lst, eqL_cons, eqL_nil, eqL_cn, eqL_nc, eqL_int, Bool.and_eq_true, Bool.or_eq_true, Bool.not_eq_true', Bool.and_false, Bool.false_and, Bool.or_false, Bool.false_or, Bool.or_true, Bool.true_or, Bool.and_true, Bool.true_and, Bool.and_self, wIsT2, wDct0, wLstOf, wRepF, wAsgH, DV.hN, hIx, hCons, hNil, hTup, wLM, gCnt, gIdx, gList, gSorted, wAppPop, wRaise0, wRaise1, wTry, wIsE, wAct, wFl, flD, okD_bl])
  refine sp_lam (sp_word_w (fun Q' E' he => ?_) ?_)
  · (try simp only [wSeq, wAsg, wOwn, wF, wLc, wSkip, wBrk, wCnt, wRet, wRetF, wRetN, wDrop, wIfS, wPar, wFor, wWh, wV, wApp, wExt, wSetIx, wAug, wVal, wLook, wC, wOp, wTst, wChain, wAnd, wOr, wNot, wAndV, wOrV, wNotV, wIf, wNil, wCons, wTup, wLst, wCall, wCB, wIsT, wiR1, wiR2, wiSq, wiEn, wiZip, gN, gT1, gT2, gT3, gT4, gT5, gT6, gT7, wYes, gAdd, DV.gSub, gMul, gMod, gDiv, gPow, gLt, gLe, gGt, gGe, gCmp, gEq, gNe, gIs, gIsN, DV.isNon, gIn, gNotIn, gIx, gSlc, wSlc, wNoP, wPart, gLen, gAbs, gInt, gMin2, gMax2, gAll, gAny, gSum, gTuple, wNeg, wRev, itemsOf, D.isTy, D.isHand, Sl.toD, big_0, big_1, big_2, big_3, big_4, big_5, big_6, big_7, big_8, big_9, big_10, big_11, big_12, draw_iff, own_ex, val_ex, wipeE, restE, Sl.keep, Option.getD_some, get_z, get_s, set_z, set_s, List.length_cons, List.length_nil, atI_0, atI_1, atI_2, atI_3, atI_4, ixN_5_0, ixN_5_1, ixN_5_2, ixN_5_3, ixN_5_4, D.bl.injEq, D.int.injEq, D.lst.injEq, D.tup.injEq, D.str.injEq, Sl.own.injEq, Sl.val.injEq, Option.some.injEq, exists_eq_left', exists_eq_left, exists_eq', exists_eq, or_true, true_or, or_false, false_or, CMul, CPow, natAbs_10, natAbs_2, Int.cast_ofNat_Int, Nat.reducePow, exists_and_left, exists_const, and_assoc, true_and, and_true, and_self, false_and, and_false, if_true, if_false, ite_true, ite_false, reduceCtorEq, decide_true, decide_false, decide_eq_true_eq, decide_eq_false_iff_not, Bool.not_true, Bool.not_false, Bool.false_eq_true, List.replicate_zero, List.replicate_succ, List.map_cons, List.map_nil, List.nil_append, List.cons_append, Nat.reduceSub, Nat.reduceAdd, Nat.reduceLeDiff, Nat.reduceLT, Int.reduceLT, Int.reduceLE, Int.reduceAdd, Int.reduceSub, Int.reduceMul, Int.reduceNeg, Int.reduceMod, Int.reduceDiv, Int.reducePow, Int.reduceToNat, okD_int, okD_bl, okD_lst, okD_tup, okD_non, okL_nil, okL_cons, okD_str, okL_int, eqD_int, eqD_bl, eqD_str, eqD_tup, eqD_lst, eqL_cons, eqL_nil, eqL_cn, eqL_nc, eqL_int, Bool.and_eq_true, Bool.or_eq_true, Bool.not_eq_true', Bool.and_false, Bool.false_and, Bool.or_false, Bool.false_or, Bool.or_true, Bool.true_or, Bool.and_true, Bool.true_and, Bool.and_self, wIsT2, wDct0, wLstOf, wRepF, wAsgH, DV.hN, hIx, hCons, hNil, hTup, wLM, gCnt, gIdx, gList, gSorted, wAppPop, wRaise0, wRaise1, wTry, wIsE, wAct, wFl, flD, okD_bl])
    refine one_bad (e := ("NoWeights", [])) (fun Q E he => sp_cw c37 w1 w2 (fun hh => ?_) fun _ => he) he
    rw [w3] at hh; cases hh
  · (try simp only [wSeq, wAsg, wOwn, wF, wLc, wSkip, wBrk, wCnt, wRet, wRetF, wRetN, wDrop, wIfS, wPar, wFor, wWh, wV, wApp, wExt, wSetIx, wAug, wVal, wLook, wC, wOp, wTst, wChain, wAnd, wOr, wNot, wAndV, wOrV, wNotV, wIf, wNil, wCons, wTup, wLst, wCall, wCB, wIsT, wiR1, wiR2, wiSq, wiEn, wiZip, gN, gT1, gT2, gT3, gT4, gT5, gT6, gT7, wYes, gAdd, DV.gSub, gMul, gMod, gDiv, gPow, gLt, gLe, gGt, gGe, gCmp, gEq, gNe, gIs, gIsN, DV.isNon, gIn, gNotIn, gIx, gSlc, wSlc, wNoP, wPart, gLen, gAbs, gInt, gMin2, gMax2, gAll, gAny, gSum, gTuple, wNeg, wRev, itemsOf, D.isTy, D.isHand, Sl.toD, big_0, big_1, big_2, big_3, big_4, big_5, big_6, big_7, big_8, big_9, big_10, big_11, big_12, draw_iff, own_ex, val_ex, wipeE, restE, Sl.keep, Option.getD_some, get_z, get_s, set_z, set_s, List.length_cons, List.length_nil, atI_0, atI_1, atI_2, atI_3, atI_4, ixN_5_0, ixN_5_1, ixN_5_2, ixN_5_3, ixN_5_4, D.bl.injEq, D.int.injEq, D.lst.injEq, D.tup.injEq, D.str.injEq, Sl.own.injEq, Sl.val.injEq, Option.some.injEq, exists_eq_left', exists_eq_left, exists_eq', exists_eq, or_true, true_or, or_false, false_or, CMul, CPow, natAbs_10, natAbs_2, Int.cast_ofNat_Int, Nat.reducePow, exists_and_left, exists_const, and_assoc, true_and, and_true, and_self, false_and, and_false, if_true, if_false, ite_true, ite_false, reduceCtorEq, decide_true, decide_false, decide_eq_true_eq, decide_eq_false_iff_not, Bool.not_true, Bool.not_false, Bool.false_eq_true, List.replicate_zero, List.replicate_succ, List.map_cons, List.map_nil, List.nil_append, List.cons_append, Nat.reduceSub, Nat.reduceAdd, Nat.reduceLeDiff, Nat.reduceLT, Int.reduceLT, Int.reduceLE, Int.reduceAdd, Int.reduceSub, Int.reduceMul, Int.reduceNeg, Int.reduceMod, Int.reduceDiv, Int.reducePow, Int.reduceToNat, okD_int, okD_bl, okD_lst, okD_tup, okD_non, okL_nil, okL_cons, okD_str, okL_int, eqD_int, eqD_bl, eqD_str, eqD_tup, eqD_lst, eqL_cons, eqL_nil, eqL_cn, eqL_nc, eqL_int, Bool.and_eq_true, Bool.or_eq_true, Bool.not_eq_true', Bool.and_false, Bool.false_and, Bool.or_false, Bool.false_or, Bool.or_true, Bool.true_or, Bool.and_true, Bool.true_and, Bool.and_self, wIsT2, wDct0, wLstOf, wRepF, wAsgH, DV.hN, hIx, hCons, hNil, hTup, wLM, gCnt, gIdx, gList, gSorted, wAppPop, wRaise0, wRaise1, wTry, wIsE, wAct, wFl, flD, okD_bl])
    exact ⟨by decide, r7 hb0 h⟩
theorem r5 {s3 : Sl} {bad by' : D} (hb : badW bad) (hy : badN 2 200 by') {q : Addr} {P : Post} (h : ∀ e, P.rt (.bl true) e) : B__law_are_refused_5 [.val .hand, .val (.lst odd), .val bad, s3, .val by', .own q [.str "number"]] P := by
  unfold B__law_are_refused_5
  (try simp only [wSeq, wAsg, wOwn, wF, wLc, wSkip, wBrk, wCnt, wRet, wRetF, wRetN, wDrop, wIfS, wPar, wFor, wWh, wV, wApp, wExt, wSetIx, wAug, wVal, wLook, wC, wOp, wTst, wChain, wAnd, wOr, wNot, wAndV, wOrV, wNotV, wIf, wNil, wCons, wTup, wLst, wCall, wCB, wIsT, wiR1, wiR2, wiSq, wiEn, wiZip, gN, gT1, gT2, gT3, gT4, gT5, gT6, gT7, wYes, gAdd, DV.gSub, gMul, gMod, gDiv, gPow, gLt, gLe, gGt, gGe, gCmp, gEq, gNe, gIs, gIsN, DV.isNon, gIn, gNotIn, gIx, gSlc, wSlc, wNoP, wPart, gLen, gAbs, gInt, gMin2, gMax2, gAll, gAny, gSum, gTuple, wNeg, wRev, itemsOf, D.isTy, D.isHand, Sl.toD, big_0, big_1, big_2, big_3, big_4, big_5, big_6, big_7, big_8, big_9, big_10, big_11, big_12, draw_iff, own_ex, val_ex, wipeE, restE, Sl.keep, Option.getD_some, get_z, get_s, set_z, set_s, List.length_cons, List.length_nil, atI_0, atI_1, atI_2, atI_3, atI_4, ixN_5_0, ixN_5_1, ixN_5_2, ixN_5_3, ixN_5_4, D.bl.injEq, D.int.injEq, D.lst.injEq, D.tup.injEq, D.str.injEq, Sl.own.injEq, Sl.val.injEq, Option.some.injEq, exists_eq_left', exists_eq_left, exists_eq', exists_eq, or_true, true_or, or_false, false_or, CMul, CPow, natAbs_10, natAbs_2, Int.cast_ofNat_Int, Nat.reducePow, exists_and_left, exists_const, and_assoc, true_and, and_true, and_self, false_and, and_false, if_true, if_false, ite_true, ite_false, reduceCtorEq, decide_true, decide_false, decide_eq_true_eq, decide_eq_false_iff_not, Bool.not_true, Bool.not_false, Bool.false_eq_true, List.replicate_zero, List.replicate_succ, List.map_cons, List.map_nil, List.nil_append, List.cons_append, Nat.reduceSub, Nat.reduceAdd, Nat.reduceLeDiff, Nat.reduceLT, Int.reduceLT, Int.reduceLE, Int.reduceAdd, Int.reduceSub, Int.reduceMul, Int.reduceNeg, Int.reduceMod, Int.reduceDiv, Int.reducePow, Int.reduceToNat, okD_int, okD_bl, okD_lst, okD_tup, okD_non, okL_nil, okL_cons, okD_str, okL_int, eqD_int, eqD_bl, eqD_str, eqD_tup, eqD_lst, eqL_cons, eqL_nil, eqL_cn, eqL_nc, eqL_int, Bool.and_eq_true, Bool.or_eq_true, Bool.not_eq_true', Bool.and_false, Bool.false_and, Bool.or_false, Bool.false_or, Bool.or_true, Bool.true_or, Bool.and_true, Bool.true_and, Bool.and_self, wIsT2, wDct0, wLstOf, wRepF, wAsgH, DV.hN, hIx, hCons, hNil, hTup, wLM, gCnt, gIdx, gList, gSorted, wAppPop, wRaise0, wRaise1, wTry, wIsE, wAct, wFl, flD, okD_bl])
  refine sp_lam (sp_word_n (fun Q' E' he => ?_) ?_)
  · (try simp only [wSeq, wAsg, wOwn, wF, wLc, wSkip, wBrk, wCnt, wRet, wRetF, wRetN, wDrop, wIfS, wPar, wFor, wWh, wV, wApp, wExt, wSetIx, wAug, wVal, wLook, wC, wOp, wTst, wChain, wAnd, wOr, wNot, wAndV, wOrV, wNotV, wIf, wNil, wCons, wTup, wLst, wCall, wCB, wIsT, wiR1, wiR2, wiSq, wiEn, wiZip, gN, gT1, gT2, gT3, gT4, gT5, gT6, gT7, wYes, gAdd, DV.gSub, gMul, gMod, gDiv, gPow, gLt, gLe, gGt, gGe, gCmp, gEq, gNe, gIs, gIsN, DV.isNon, gIn, gNotIn, gIx, gSlc, wSlc, wNoP, wPart, gLen, gAbs, gInt, gMin2, gMax2, gAll, gAny, gSum, gTuple, wNeg, wRev, itemsOf, D.isTy, D.isHand, Sl.toD, big_0, big_1, big_2, big_3, big_4, big_5, big_6, big_7, big_8, big_9, big_10, big_11, big_12, draw_iff, own_ex, val_ex, wipeE, restE, Sl.keep, Option.getD_some, get_z, get_s, set_z, set_s, List.length_cons, List.length_nil, atI_0, atI_1, atI_2, atI_3, atI_4, ixN_5_0, ixN_5_1, ixN_5_2, ixN_5_3, ixN_5_4, D.bl.injEq, D.int.injEq, D.lst.injEq, D.tup.injEq, D.str.injEq, Sl.own.injEq, Sl.val.injEq, Option.some.injEq, exists_eq_left', exists_eq_left, exists_eq', exists_eq, or_true, true_or, or_false, false_or, CMul, CPow, natAbs_10, natAbs_2, Int.cast_ofNat_Int, Nat.reducePow, exists_and_left, exists_const, and_assoc, true_and, and_true, and_self, false_and, and_false, if_true, if_false, ite_true, ite_false, reduceCtorEq, decide_true, decide_false, decide_eq_true_eq, decide_eq_false_iff_not, Bool.not_true, Bool.not_false, Bool.false_eq_true, List.replicate_zero, List.replicate_succ, List.map_cons, List.map_nil, List.nil_append, List.cons_append, Nat.reduceSub, Nat.reduceAdd, Nat.reduceLeDiff, Nat.reduceLT, Int.reduceLT, Int.reduceLE, Int.reduceAdd, Int.reduceSub, Int.reduceMul, Int.reduceNeg, Int.reduceMod, Int.reduceDiv, Int.reducePow, Int.reduceToNat, okD_int, okD_bl, okD_lst, okD_tup, okD_non, okL_nil, okL_cons, okD_str, okL_int, eqD_int, eqD_bl, eqD_str, eqD_tup, eqD_lst, eqL_cons, eqL_nil, eqL_cn, eqL_nc, eqL_int, Bool.and_eq_true, Bool.or_eq_true, Bool.not_eq_true', Bool.and_false, Bool.false_and, Bool.or_false, Bool.false_or, Bool.or_true, Bool.true_or, Bool.and_true, Bool.true_and, Bool.and_self, wIsT2, wDct0, wLstOf, wRepF, wAsgH, DV.hN, hIx, hCons, hNil, hTup, wLM, gCnt, gIdx, gList, gSorted, wAppPop, wRaise0, wRaise1, wTry, wIsE, wAct, wFl, flD, okD_bl])
    exact one_bad (e := ("NoNumber", [])) (fun Q E he => sp_cw_m (by decide) (by decide) hy.1 hy.2 he) he
  · (try simp only [wSeq, wAsg, wOwn, wF, wLc, wSkip, wBrk, wCnt, wRet, wRetF, wRetN, wDrop, wIfS, wPar, wFor, wWh, wV, wApp, wExt, wSetIx, wAug, wVal, wLook, wC, wOp, wTst, wChain, wAnd, wOr, wNot, wAndV, wOrV, wNotV, wIf, wNil, wCons, wTup, wLst, wCall, wCB, wIsT, wiR1, wiR2, wiSq, wiEn, wiZip, gN, gT1, gT2, gT3, gT4, gT5, gT6, gT7, wYes, gAdd, DV.gSub, gMul, gMod, gDiv, gPow, gLt, gLe, gGt, gGe, gCmp, gEq, gNe, gIs, gIsN, DV.isNon, gIn, gNotIn, gIx, gSlc, wSlc, wNoP, wPart, gLen, gAbs, gInt, gMin2, gMax2, gAll, gAny, gSum, gTuple, wNeg, wRev, itemsOf, D.isTy, D.isHand, Sl.toD, big_0, big_1, big_2, big_3, big_4, big_5, big_6, big_7, big_8, big_9, big_10, big_11, big_12, draw_iff, own_ex, val_ex, wipeE, restE, Sl.keep, Option.getD_some, get_z, get_s, set_z, set_s, List.length_cons, List.length_nil, atI_0, atI_1, atI_2, atI_3, atI_4, ixN_5_0, ixN_5_1, ixN_5_2, ixN_5_3, ixN_5_4, D.bl.injEq, D.int.injEq, D.lst.injEq, D.tup.injEq, D.str.injEq, Sl.own.injEq, Sl.val.injEq, Option.some.injEq, exists_eq_left', exists_eq_left, exists_eq', exists_eq, or_true, true_or, or_false, false_or, CMul, CPow, natAbs_10, natAbs_2, Int.cast_ofNat_Int, Nat.reducePow, exists_and_left, exists_const, and_assoc, true_and, and_true, and_self, false_and, and_false, if_true, if_false, ite_true, ite_false, reduceCtorEq, decide_true, decide_false, decide_eq_true_eq, decide_eq_false_iff_not, Bool.not_true, Bool.not_false, Bool.false_eq_true, List.replicate_zero, List.replicate_succ, List.map_cons, List.map_nil, List.nil_append, List.cons_append, Nat.reduceSub, Nat.reduceAdd, Nat.reduceLeDiff, Nat.reduceLT, Int.reduceLT, Int.reduceLE, Int.reduceAdd, Int.reduceSub, Int.reduceMul, Int.reduceNeg, Int.reduceMod, Int.reduceDiv, Int.reducePow, Int.reduceToNat, okD_int, okD_bl, okD_lst, okD_tup, okD_non, okL_nil, okL_cons, okD_str, okL_int, eqD_int, eqD_bl, eqD_str, eqD_tup, eqD_lst, eqL_cons, eqL_nil, eqL_cn, eqL_nc, eqL_int, Bool.and_eq_true, Bool.or_eq_true, Bool.not_eq_true', Bool.and_false, Bool.false_and, Bool.or_false, Bool.false_or, Bool.or_true, Bool.true_or, Bool.and_true, Bool.true_and, Bool.and_self, wIsT2, wDct0, wLstOf, wRepF, wAsgH, DV.hN, hIx, hCons, hNil, hTup, wLM, gCnt, gIdx, gList, gSorted, wAppPop, wRaise0, wRaise1, wTry, wIsE, wAct, wFl, flD, okD_bl])
    exact ⟨by decide, r6 hb h⟩
theorem r4 {s5 : Sl} {bad sg by' : D} (hb : badW bad) (hs : badN 2 36 sg) (hy : badN 2 200 by') {P : Post} (h : ∀ e, P.rt (.bl true) e) : B__law_are_refused_4 [.val .hand, .val (.lst odd), .val bad, .val sg, .val by', s5] P := by
  unfold B__law_are_refused_4
  (try simp only [wSeq, wAsg, wOwn, wF, wLc, wSkip, wBrk, wCnt, wRet, wRetF, wRetN, wDrop, wIfS, wPar, wFor, wWh, wV, wApp, wExt, wSetIx, wAug, wVal, wLook, wC, wOp, wTst, wChain, wAnd, wOr, wNot, wAndV, wOrV, wNotV, wIf, wNil, wCons, wTup, wLst, wCall, wCB, wIsT, wiR1, wiR2, wiSq, wiEn, wiZip, gN, gT1, gT2, gT3, gT4, gT5, gT6, gT7, wYes, gAdd, DV.gSub, gMul, gMod, gDiv, gPow, gLt, gLe, gGt, gGe, gCmp, gEq, gNe, gIs, gIsN, DV.isNon, gIn, gNotIn, gIx, gSlc, wSlc, wNoP, wPart, gLen, gAbs, gInt, gMin2, gMax2, gAll, gAny, gSum, gTuple, wNeg, wRev, itemsOf, D.isTy, D.isHand, Sl.toD, big_0, big_1, big_2, big_3, big_4, big_5, big_6, big_7, big_8, big_9, big_10, big_11, big_12, draw_iff, own_ex, val_ex, wipeE, restE, Sl.keep, Option.getD_some, get_z, get_s, set_z, set_s, List.length_cons, List.length_nil, atI_0, atI_1, atI_2, atI_3, atI_4, ixN_5_0, ixN_5_1, ixN_5_2, ixN_5_3, ixN_5_4, D.bl.injEq, D.int.injEq, D.lst.injEq, D.tup.injEq, D.str.injEq, Sl.own.injEq, Sl.val.injEq, Option.some.injEq, exists_eq_left', exists_eq_left, exists_eq', exists_eq, or_true, true_or, or_false, false_or, CMul, CPow, natAbs_10, natAbs_2, Int.cast_ofNat_Int, Nat.reducePow, exists_and_left, exists_const, and_assoc, true_and, and_true, and_self, false_and, and_false, if_true, if_false, ite_true, ite_false, reduceCtorEq, decide_true, decide_false, decide_eq_true_eq, decide_eq_false_iff_not, Bool.not_true, Bool.not_false, Bool.false_eq_true, List.replicate_zero, List.replicate_succ, List.map_cons, List.map_nil, List.nil_append, List.cons_append, Nat.reduceSub, Nat.reduceAdd, Nat.reduceLeDiff, Nat.reduceLT, Int.reduceLT, Int.reduceLE, Int.reduceAdd, Int.reduceSub, Int.reduceMul, Int.reduceNeg, Int.reduceMod, Int.reduceDiv, Int.reducePow, Int.reduceToNat, okD_int, okD_bl, okD_lst, okD_tup, okD_non, okL_nil, okL_cons, okD_str, okL_int, eqD_int, eqD_bl, eqD_str, eqD_tup, eqD_lst, eqL_cons, eqL_nil, eqL_cn, eqL_nc, eqL_int, Bool.and_eq_true, Bool.or_eq_true, Bool.not_eq_true', Bool.and_false, Bool.false_and, Bool.or_false, Bool.false_or, Bool.or_true, Bool.true_or, Bool.and_true, Bool.true_and, Bool.and_self, wIsT2, wDct0, wLstOf, wRepF, wAsgH, DV.hN, hIx, hCons, hNil, hTup, wLM, gCnt, gIdx, gList, gSorted, wAppPop, wRaise0, wRaise1, wTry, wIsE, wAct, wFl, flD, okD_bl])
  refine sp_lam (sp_word_n (fun Q' E' he => ?_) ?_)
  · (try simp only [wSeq, wAsg, wOwn, wF, wLc, wSkip, wBrk, wCnt, wRet, wRetF, wRetN, wDrop, wIfS, wPar, wFor, wWh, wV, wApp, wExt, wSetIx, wAug, wVal, wLook, wC, wOp, wTst, wChain, wAnd, wOr, wNot, wAndV, wOrV, wNotV, wIf, wNil, wCons, wTup, wLst, wCall, wCB, wIsT, wiR1, wiR2, wiSq, wiEn, wiZip, gN, gT1, gT2, gT3, gT4, gT5, gT6, gT7, wYes, gAdd, DV.gSub, gMul, gMod, gDiv, gPow, gLt, gLe, gGt, gGe, gCmp, gEq, gNe, gIs, gIsN, DV.isNon, gIn, gNotIn, gIx, gSlc, wSlc, wNoP, wPart, gLen, gAbs, gInt, gMin2, gMax2, gAll, gAny, gSum, gTuple, wNeg, wRev, itemsOf, D.isTy, D.isHand, Sl.toD, big_0, big_1, big_2, big_3, big_4, big_5, big_6, big_7, big_8, big_9, big_10, big_11, big_12, draw_iff, own_ex, val_ex, wipeE, restE, Sl.keep, Option.getD_some, get_z, get_s, set_z, set_s, List.length_cons, List.length_nil, atI_0, atI_1, atI_2, atI_3, atI_4, ixN_5_0, ixN_5_1, ixN_5_2, ixN_5_3, ixN_5_4, D.bl.injEq, D.int.injEq, D.lst.injEq, D.tup.injEq, D.str.injEq, Sl.own.injEq, Sl.val.injEq, Option.some.injEq, exists_eq_left', exists_eq_left, exists_eq', exists_eq, or_true, true_or, or_false, false_or, CMul, CPow, natAbs_10, natAbs_2, Int.cast_ofNat_Int, Nat.reducePow, exists_and_left, exists_const, and_assoc, true_and, and_true, and_self, false_and, and_false, if_true, if_false, ite_true, ite_false, reduceCtorEq, decide_true, decide_false, decide_eq_true_eq, decide_eq_false_iff_not, Bool.not_true, Bool.not_false, Bool.false_eq_true, List.replicate_zero, List.replicate_succ, List.map_cons, List.map_nil, List.nil_append, List.cons_append, Nat.reduceSub, Nat.reduceAdd, Nat.reduceLeDiff, Nat.reduceLT, Int.reduceLT, Int.reduceLE, Int.reduceAdd, Int.reduceSub, Int.reduceMul, Int.reduceNeg, Int.reduceMod, Int.reduceDiv, Int.reducePow, Int.reduceToNat, okD_int, okD_bl, okD_lst, okD_tup, okD_non, okL_nil, okL_cons, okD_str, okL_int, eqD_int, eqD_bl, eqD_str, eqD_tup, eqD_lst, eqL_cons, eqL_nil, eqL_cn, eqL_nc, eqL_int, Bool.and_eq_true, Bool.or_eq_true, Bool.not_eq_true', Bool.and_false, Bool.false_and, Bool.or_false, Bool.false_or, Bool.or_true, Bool.true_or, Bool.and_true, Bool.true_and, Bool.and_self, wIsT2, wDct0, wLstOf, wRepF, wAsgH, DV.hN, hIx, hCons, hNil, hTup, wLM, gCnt, gIdx, gList, gSorted, wAppPop, wRaise0, wRaise1, wTry, wIsE, wAct, wFl, flD, okD_bl])
    exact one_bad (e := ("NoNumber", [])) (fun Q E he => sp_cw_s hs.1 hs.2 he) he
  · (try simp only [wSeq, wAsg, wOwn, wF, wLc, wSkip, wBrk, wCnt, wRet, wRetF, wRetN, wDrop, wIfS, wPar, wFor, wWh, wV, wApp, wExt, wSetIx, wAug, wVal, wLook, wC, wOp, wTst, wChain, wAnd, wOr, wNot, wAndV, wOrV, wNotV, wIf, wNil, wCons, wTup, wLst, wCall, wCB, wIsT, wiR1, wiR2, wiSq, wiEn, wiZip, gN, gT1, gT2, gT3, gT4, gT5, gT6, gT7, wYes, gAdd, DV.gSub, gMul, gMod, gDiv, gPow, gLt, gLe, gGt, gGe, gCmp, gEq, gNe, gIs, gIsN, DV.isNon, gIn, gNotIn, gIx, gSlc, wSlc, wNoP, wPart, gLen, gAbs, gInt, gMin2, gMax2, gAll, gAny, gSum, gTuple, wNeg, wRev, itemsOf, D.isTy, D.isHand, Sl.toD, big_0, big_1, big_2, big_3, big_4, big_5, big_6, big_7, big_8, big_9, big_10, big_11, big_12, draw_iff, own_ex, val_ex, wipeE, restE, Sl.keep, Option.getD_some, get_z, get_s, set_z, set_s, List.length_cons, List.length_nil, atI_0, atI_1, atI_2, atI_3, atI_4, ixN_5_0, ixN_5_1, ixN_5_2, ixN_5_3, ixN_5_4, D.bl.injEq, D.int.injEq, D.lst.injEq, D.tup.injEq, D.str.injEq, Sl.own.injEq, Sl.val.injEq, Option.some.injEq, exists_eq_left', exists_eq_left, exists_eq', exists_eq, or_true, true_or, or_false, false_or, CMul, CPow, natAbs_10, natAbs_2, Int.cast_ofNat_Int, Nat.reducePow, exists_and_left, exists_const, and_assoc, true_and, and_true, and_self, false_and, and_false, if_true, if_false, ite_true, ite_false, reduceCtorEq, decide_true, decide_false, decide_eq_true_eq, decide_eq_false_iff_not, Bool.not_true, Bool.not_false, Bool.false_eq_true, List.replicate_zero, List.replicate_succ, List.map_cons, List.map_nil, List.nil_append, List.cons_append, Nat.reduceSub, Nat.reduceAdd, Nat.reduceLeDiff, Nat.reduceLT, Int.reduceLT, Int.reduceLE, Int.reduceAdd, Int.reduceSub, Int.reduceMul, Int.reduceNeg, Int.reduceMod, Int.reduceDiv, Int.reducePow, Int.reduceToNat, okD_int, okD_bl, okD_lst, okD_tup, okD_non, okL_nil, okL_cons, okD_str, okL_int, eqD_int, eqD_bl, eqD_str, eqD_tup, eqD_lst, eqL_cons, eqL_nil, eqL_cn, eqL_nc, eqL_int, Bool.and_eq_true, Bool.or_eq_true, Bool.not_eq_true', Bool.and_false, Bool.false_and, Bool.or_false, Bool.false_or, Bool.or_true, Bool.true_or, Bool.and_true, Bool.true_and, Bool.and_self, wIsT2, wDct0, wLstOf, wRepF, wAsgH, DV.hN, hIx, hCons, hNil, hTup, wLM, gCnt, gIdx, gList, gSorted, wAppPop, wRaise0, wRaise1, wTry, wIsE, wAct, wFl, flD, okD_bl])
    exact fun _ => r5 hb hy h
theorem r3 {s3 s4 s5 : Sl} {bad : D} (hb : badW bad) {L : List D} (hL : L = odd) {P : Post} (h : ∀ e, P.rt (.bl true) e) : B__law_are_refused_3 [.val .hand, .val (.lst L), .val bad, s3, s4, s5] P := by
  have l5 : L.length = 5 := by rw [hL]; rfl
  have n2 : ∀ x ∈ L, badN 2 36 x := by rw [hL]; exact badN_5 (by decide) (by decide)
  have n3 : ∀ x ∈ L, badN 2 200 x := by rw [hL]; exact badN_5 (by decide) (by decide)
  have k1 : L.length + 3 ≤ big := by rw [l5]; decide
  unfold B__law_are_refused_3
  simp only [wSeq, wAsg, wOwn, wF, wLc, wSkip, wBrk, wCnt, wRet, wRetF, wRetN, wDrop, wIfS, wPar, wFor, wWh, wV, wApp, wExt, wSetIx, wAug, wVal, wLook, wC, wOp, wTst, wChain, wAnd, wOr, wNot, wAndV, wOrV, wNotV, wIf, wNil, wCons, wTup, wLst, wCall, wCB, wIsT, wiR1, wiR2, wiSq, wiEn, wiZip, gN, gT1, gT2, gT3, gT4, gT5, gT6, gT7, wYes, gAdd, DV.gSub, gMul, gMod, gDiv, gPow, gLt, gLe, gGt, gGe, gCmp, gEq, gNe, gIs, gIsN, DV.isNon, gIn, gNotIn, gIx, gSlc, wSlc, wNoP, wPart, gLen, gAbs, gInt, gMin2, gMax2, gAll, gAny, gSum, gTuple, wNeg, wRev, itemsOf, D.isTy, D.isHand, Sl.toD, big_0, big_1, big_2, big_3, big_4, big_5, big_6, big_7, big_8, big_9, big_10, big_11, big_12, draw_iff, own_ex, val_ex, wipeE, restE, Sl.keep, Option.getD_some, get_z, get_s, set_z, set_s, List.length_cons, List.length_nil, atI_0, atI_1, atI_2, atI_3, atI_4, ixN_5_0, ixN_5_1, ixN_5_2, ixN_5_3, ixN_5_4, D.bl.injEq, D.int.injEq, D.lst.injEq, D.tup.injEq, D.str.injEq, Sl.own.injEq, Sl.val.injEq, Option.some.injEq, exists_eq_left', exists_eq_left, exists_eq', exists_eq, or_true, true_or, or_false, false_or, CMul, CPow, natAbs_10, natAbs_2, Int.cast_ofNat_Int, Nat.reducePow, exists_and_left, exists_const, and_assoc, true_and, and_true, and_self, false_and, and_false, if_true, if_false, ite_true, ite_false, reduceCtorEq, decide_true, decide_false, decide_eq_true_eq, decide_eq_false_iff_not, Bool.not_true, Bool.not_false, Bool.false_eq_true, List.replicate_zero, List.replicate_succ, List.map_cons, List.map_nil, List.nil_append, List.cons_append, Nat.reduceSub, Nat.reduceAdd, Nat.reduceLeDiff, Nat.reduceLT, Int.reduceLT, Int.reduceLE, Int.reduceAdd, Int.reduceSub, Int.reduceMul, Int.reduceNeg, Int.reduceMod, Int.reduceDiv, Int.reducePow, Int.reduceToNat, okD_int, okD_bl, okD_lst, okD_tup, okD_non, okL_nil, okL_cons, okD_str, okL_int, eqD_int, eqD_bl, eqD_str, eqD_tup, eqD_lst, eqL_cons, eqL_nil, eqL_cn, eqL_nc, eqL_int, Bool.and_eq_true, Bool.or_eq_true, Bool.not_eq_true', Bool.and_false, Bool.false_and, Bool.or_false, Bool.false_or, Bool.or_true, Bool.true_or, Bool.and_true, Bool.true_and, Bool.and_self, wIsT2, wDct0, wLstOf, wRepF, wAsgH, DV.hN, hIx, hCons, hNil, hTup, wLM, gCnt, gIdx, gList, gSorted, wAppPop, wRaise0, wRaise1, wTry, wIsE, wAct, wFl, flD, okD_bl, k1]
  refine fun _ => sp_some (by simp) (by simp; omega) fun sg hs => ?_
  have hs2 : badN 2 36 sg := badN_app n2 (fun x hx => by
    simp only [List.mem_cons, List.not_mem_nil, or_false] at hx
    rcases hx with rfl | rfl | rfl <;> exact badN_one (by decide)) sg hs
  refine fun _ => sp_some (by simp) (by simp; omega) fun by' hy => ?_
  have hy2 : badN 2 200 by' := badN_app n3 (fun x hx => by
    simp only [List.mem_cons, List.not_mem_nil, or_false] at hx
    rcases hx with rfl | rfl | rfl <;> exact badN_one (by decide)) by' hy
  subst hL
  exact r4 hb hs2 hy2 h
theorem sp_refused (h : Q (.bl true)) : T__law_are_refused [.hand] Q E := by
  unfold T__law_are_refused wFn B__law_are_refused
  (try simp only [wSeq, wAsg, wOwn, wF, wLc, wSkip, wBrk, wCnt, wRet, wRetF, wRetN, wDrop, wIfS, wPar, wFor, wWh, wV, wApp, wExt, wSetIx, wAug, wVal, wLook, wC, wOp, wTst, wChain, wAnd, wOr, wNot, wAndV, wOrV, wNotV, wIf, wNil, wCons, wTup, wLst, wCall, wCB, wIsT, wiR1, wiR2, wiSq, wiEn, wiZip, gN, gT1, gT2, gT3, gT4, gT5, gT6, gT7, wYes, gAdd, DV.gSub, gMul, gMod, gDiv, gPow, gLt, gLe, gGt, gGe, gCmp, gEq, gNe, gIs, gIsN, DV.isNon, gIn, gNotIn, gIx, gSlc, wSlc, wNoP, wPart, gLen, gAbs, gInt, gMin2, gMax2, gAll, gAny, gSum, gTuple, wNeg, wRev, itemsOf, D.isTy, D.isHand, Sl.toD, big_0, big_1, big_2, big_3, big_4, big_5, big_6, big_7, big_8, big_9, big_10, big_11, big_12, draw_iff, own_ex, val_ex, wipeE, restE, Sl.keep, Option.getD_some, get_z, get_s, set_z, set_s, List.length_cons, List.length_nil, atI_0, atI_1, atI_2, atI_3, atI_4, ixN_5_0, ixN_5_1, ixN_5_2, ixN_5_3, ixN_5_4, D.bl.injEq, D.int.injEq, D.lst.injEq, D.tup.injEq, D.str.injEq, Sl.own.injEq, Sl.val.injEq, Option.some.injEq, exists_eq_left', exists_eq_left, exists_eq', exists_eq, or_true, true_or, or_false, false_or, CMul, CPow, natAbs_10, natAbs_2, Int.cast_ofNat_Int, Nat.reducePow, exists_and_left, exists_const, and_assoc, true_and, and_true, and_self, false_and, and_false, if_true, if_false, ite_true, ite_false, reduceCtorEq, decide_true, decide_false, decide_eq_true_eq, decide_eq_false_iff_not, Bool.not_true, Bool.not_false, Bool.false_eq_true, List.replicate_zero, List.replicate_succ, List.map_cons, List.map_nil, List.nil_append, List.cons_append, Nat.reduceSub, Nat.reduceAdd, Nat.reduceLeDiff, Nat.reduceLT, Int.reduceLT, Int.reduceLE, Int.reduceAdd, Int.reduceSub, Int.reduceMul, Int.reduceNeg, Int.reduceMod, Int.reduceDiv, Int.reducePow, Int.reduceToNat, okD_int, okD_bl, okD_lst, okD_tup, okD_non, okL_nil, okL_cons, okD_str, okL_int, eqD_int, eqD_bl, eqD_str, eqD_tup, eqD_lst, eqL_cons, eqL_nil, eqL_cn, eqL_nc, eqL_int, Bool.and_eq_true, Bool.or_eq_true, Bool.not_eq_true', Bool.and_false, Bool.false_and, Bool.or_false, Bool.false_or, Bool.or_true, Bool.true_or, Bool.and_true, Bool.true_and, Bool.and_self, wIsT2, wDct0, wLstOf, wRepF, wAsgH, DV.hN, hIx, hCons, hNil, hTup, wLM, gCnt, gIdx, gList, gSorted, wAppPop, wRaise0, wRaise1, wTry, wIsE, wAct, wFl, flD, okD_bl])
  intro _
  unfold B__law_are_refused_2
  (try simp only [wSeq, wAsg, wOwn, wF, wLc, wSkip, wBrk, wCnt, wRet, wRetF, wRetN, wDrop, wIfS, wPar, wFor, wWh, wV, wApp, wExt, wSetIx, wAug, wVal, wLook, wC, wOp, wTst, wChain, wAnd, wOr, wNot, wAndV, wOrV, wNotV, wIf, wNil, wCons, wTup, wLst, wCall, wCB, wIsT, wiR1, wiR2, wiSq, wiEn, wiZip, gN, gT1, gT2, gT3, gT4, gT5, gT6, gT7, wYes, gAdd, DV.gSub, gMul, gMod, gDiv, gPow, gLt, gLe, gGt, gGe, gCmp, gEq, gNe, gIs, gIsN, DV.isNon, gIn, gNotIn, gIx, gSlc, wSlc, wNoP, wPart, gLen, gAbs, gInt, gMin2, gMax2, gAll, gAny, gSum, gTuple, wNeg, wRev, itemsOf, D.isTy, D.isHand, Sl.toD, big_0, big_1, big_2, big_3, big_4, big_5, big_6, big_7, big_8, big_9, big_10, big_11, big_12, draw_iff, own_ex, val_ex, wipeE, restE, Sl.keep, Option.getD_some, get_z, get_s, set_z, set_s, List.length_cons, List.length_nil, atI_0, atI_1, atI_2, atI_3, atI_4, ixN_5_0, ixN_5_1, ixN_5_2, ixN_5_3, ixN_5_4, D.bl.injEq, D.int.injEq, D.lst.injEq, D.tup.injEq, D.str.injEq, Sl.own.injEq, Sl.val.injEq, Option.some.injEq, exists_eq_left', exists_eq_left, exists_eq', exists_eq, or_true, true_or, or_false, false_or, CMul, CPow, natAbs_10, natAbs_2, Int.cast_ofNat_Int, Nat.reducePow, exists_and_left, exists_const, and_assoc, true_and, and_true, and_self, false_and, and_false, if_true, if_false, ite_true, ite_false, reduceCtorEq, decide_true, decide_false, decide_eq_true_eq, decide_eq_false_iff_not, Bool.not_true, Bool.not_false, Bool.false_eq_true, List.replicate_zero, List.replicate_succ, List.map_cons, List.map_nil, List.nil_append, List.cons_append, Nat.reduceSub, Nat.reduceAdd, Nat.reduceLeDiff, Nat.reduceLT, Int.reduceLT, Int.reduceLE, Int.reduceAdd, Int.reduceSub, Int.reduceMul, Int.reduceNeg, Int.reduceMod, Int.reduceDiv, Int.reducePow, Int.reduceToNat, okD_int, okD_bl, okD_lst, okD_tup, okD_non, okL_nil, okL_cons, okD_str, okL_int, eqD_int, eqD_bl, eqD_str, eqD_tup, eqD_lst, eqL_cons, eqL_nil, eqL_cn, eqL_nc, eqL_int, Bool.and_eq_true, Bool.or_eq_true, Bool.not_eq_true', Bool.and_false, Bool.false_and, Bool.or_false, Bool.false_or, Bool.or_true, Bool.true_or, Bool.and_true, Bool.true_and, Bool.and_self, wIsT2, wDct0, wLstOf, wRepF, wAsgH, DV.hN, hIx, hCons, hNil, hTup, wLM, gCnt, gIdx, gList, gSorted, wAppPop, wRaise0, wRaise1, wTry, wIsE, wAct, wFl, flD, okD_bl])
  refine fun _ => ⟨by simp, fun _ => ?_⟩
  refine sp_some (by decide) (by decide) fun bad hb => ?_
  have hbw : badW bad := badW_all bad hb
  exact r3 hbw rfl fun _ => h
end
end Law

set_option Elab.async false
set_option linter.all false
set_option maxRecDepth 100000
namespace Law
open PySem PySem.Spec PyProof.Rows L2 DV
theorem c10 : Sm 10 10 := ⟨by decide, by decide, by decide, by decide⟩
theorem c11 : Sm 10 11 := ⟨by decide, by decide, by decide, by decide⟩
theorem v13 : Ws 10 [1, 3] := ⟨by decide, by decide, by decide⟩
theorem u13 : Ws 11 [1, 3] := ⟨by decide, by decide, by decide⟩
theorem v12 : Ws 10 [1, 2] := ⟨by decide, by decide, by decide⟩
theorem p1 : least 10 10 (enumI 0 [1, 3]) = .tup [.str "seen"] := by rfl
theorem p2 : least 10 10 (enumI 0 (gaps [1, 3] 4)) = .tup [.str "place", .int 0, .int 0, .int 5] := by rfl
theorem p3 : least 10 10 (enumI 0 [1, 2]) = .tup [.str "place", .int 1, .int 0, .int 5] := by rfl
theorem p4 : least 10 11 (enumI 0 (gaps [1, 3] 2)) = .tup [.str "seen"] := by rfl
theorem hb_law : B_law (.no :: .val .hand :: List.replicate (5 - 2) .no) { nx := fun _ => False, rt := fun d _ => d = .bl true, bk := fun _ => False, ct := fun _ => False, ex := fun _ _ => False } := by
  unfold B_law
  (try simp only [wSeq, wAsg, wOwn, wF, wLc, wSkip, wBrk, wCnt, wRet, wRetF, wRetN, wDrop, wIfS, wPar, wFor, wWh, wV, wApp, wExt, wSetIx, wAug, wVal, wLook, wC, wOp, wTst, wChain, wAnd, wOr, wNot, wAndV, wOrV, wNotV, wIf, wNil, wCons, wTup, wLst, wCall, wCB, wIsT, wiR1, wiR2, wiSq, wiEn, wiZip, gN, gT1, gT2, gT3, gT4, gT5, gT6, gT7, wYes, gAdd, DV.gSub, gMul, gMod, gDiv, gPow, gLt, gLe, gGt, gGe, gCmp, gEq, gNe, gIs, gIsN, DV.isNon, gIn, gNotIn, gIx, gSlc, wSlc, wNoP, wPart, gLen, gAbs, gInt, gMin2, gMax2, gAll, gAny, gSum, gTuple, wNeg, wRev, itemsOf, D.isTy, D.isHand, Sl.toD, big_0, big_1, big_2, big_3, big_4, big_5, big_6, big_7, big_8, big_9, big_10, big_11, big_12, draw_iff, own_ex, val_ex, wipeE, restE, Sl.keep, Option.getD_some, get_z, get_s, set_z, set_s, List.length_cons, List.length_nil, atI_0, atI_1, atI_2, atI_3, atI_4, ixN_5_0, ixN_5_1, ixN_5_2, ixN_5_3, ixN_5_4, D.bl.injEq, D.int.injEq, D.lst.injEq, D.tup.injEq, D.str.injEq, Sl.own.injEq, Sl.val.injEq, Option.some.injEq, exists_eq_left', exists_eq_left, exists_eq', exists_eq, or_true, true_or, or_false, false_or, CMul, CPow, natAbs_10, natAbs_2, Int.cast_ofNat_Int, Nat.reducePow, exists_and_left, exists_const, and_assoc, true_and, and_true, and_self, false_and, and_false, if_true, if_false, ite_true, ite_false, reduceCtorEq, decide_true, decide_false, decide_eq_true_eq, decide_eq_false_iff_not, Bool.not_true, Bool.not_false, Bool.false_eq_true, List.replicate_zero, List.replicate_succ, List.map_cons, List.map_nil, List.nil_append, List.cons_append, Nat.reduceSub, Nat.reduceAdd, Nat.reduceLeDiff, Nat.reduceLT, Int.reduceLT, Int.reduceLE, Int.reduceAdd, Int.reduceSub, Int.reduceMul, Int.reduceNeg, Int.reduceMod, Int.reduceDiv, Int.reducePow, Int.reduceToNat, okD_int, okD_bl, okD_lst, okD_tup, okD_non, okL_nil, okL_cons, okD_str, okL_int, eqD_int, eqD_bl, eqD_str, eqD_tup, eqD_lst, eqL_cons, eqL_nil, eqL_cn, eqL_nc, eqL_int, Bool.and_eq_true, Bool.or_eq_true, Bool.not_eq_true', Bool.and_false, Bool.false_and, Bool.or_false, Bool.false_or, Bool.or_true, Bool.true_or, Bool.and_true, Bool.true_and, Bool.and_self, wIsT2, wDct0, wLstOf, wRepF, wAsgH, DV.hN, hIx, hCons, hNil, hTup, wLM, gCnt, gIdx, gList, gSorted, wAppPop, wRaise0, wRaise1, wTry, wIsE, wAct, wFl, flD, okD_bl])
  refine sp_one_told c10 (ws := [1, 3]) v13 ?_
  rw [p1]
  refine sp_swap_told c10 (ws := [1, 3]) v13 (by decide) (by decide) ?_
  rw [p2]
  refine sp_one_told c10 (ws := [1, 2]) v12 ?_
  rw [p3]
  (try simp only [wSeq, wAsg, wOwn, wF, wLc, wSkip, wBrk, wCnt, wRet, wRetF, wRetN, wDrop, wIfS, wPar, wFor, wWh, wV, wApp, wExt, wSetIx, wAug, wVal, wLook, wC, wOp, wTst, wChain, wAnd, wOr, wNot, wAndV, wOrV, wNotV, wIf, wNil, wCons, wTup, wLst, wCall, wCB, wIsT, wiR1, wiR2, wiSq, wiEn, wiZip, gN, gT1, gT2, gT3, gT4, gT5, gT6, gT7, wYes, gAdd, DV.gSub, gMul, gMod, gDiv, gPow, gLt, gLe, gGt, gGe, gCmp, gEq, gNe, gIs, gIsN, DV.isNon, gIn, gNotIn, gIx, gSlc, wSlc, wNoP, wPart, gLen, gAbs, gInt, gMin2, gMax2, gAll, gAny, gSum, gTuple, wNeg, wRev, itemsOf, D.isTy, D.isHand, Sl.toD, big_0, big_1, big_2, big_3, big_4, big_5, big_6, big_7, big_8, big_9, big_10, big_11, big_12, draw_iff, own_ex, val_ex, wipeE, restE, Sl.keep, Option.getD_some, get_z, get_s, set_z, set_s, List.length_cons, List.length_nil, atI_0, atI_1, atI_2, atI_3, atI_4, ixN_5_0, ixN_5_1, ixN_5_2, ixN_5_3, ixN_5_4, D.bl.injEq, D.int.injEq, D.lst.injEq, D.tup.injEq, D.str.injEq, Sl.own.injEq, Sl.val.injEq, Option.some.injEq, exists_eq_left', exists_eq_left, exists_eq', exists_eq, or_true, true_or, or_false, false_or, CMul, CPow, natAbs_10, natAbs_2, Int.cast_ofNat_Int, Nat.reducePow, exists_and_left, exists_const, and_assoc, true_and, and_true, and_self, false_and, and_false, if_true, if_false, ite_true, ite_false, reduceCtorEq, decide_true, decide_false, decide_eq_true_eq, decide_eq_false_iff_not, Bool.not_true, Bool.not_false, Bool.false_eq_true, List.replicate_zero, List.replicate_succ, List.map_cons, List.map_nil, List.nil_append, List.cons_append, Nat.reduceSub, Nat.reduceAdd, Nat.reduceLeDiff, Nat.reduceLT, Int.reduceLT, Int.reduceLE, Int.reduceAdd, Int.reduceSub, Int.reduceMul, Int.reduceNeg, Int.reduceMod, Int.reduceDiv, Int.reducePow, Int.reduceToNat, okD_int, okD_bl, okD_lst, okD_tup, okD_non, okL_nil, okL_cons, okD_str, okL_int, eqD_int, eqD_bl, eqD_str, eqD_tup, eqD_lst, eqL_cons, eqL_nil, eqL_cn, eqL_nc, eqL_int, Bool.and_eq_true, Bool.or_eq_true, Bool.not_eq_true', Bool.and_false, Bool.false_and, Bool.or_false, Bool.false_or, Bool.or_true, Bool.true_or, Bool.and_true, Bool.true_and, Bool.and_self, wIsT2, wDct0, wLstOf, wRepF, wAsgH, DV.hN, hIx, hCons, hNil, hTup, wLM, gCnt, gIdx, gList, gSorted, wAppPop, wRaise0, wRaise1, wTry, wIsE, wAct, wFl, flD, okD_bl])
  intro _
  unfold B_law_3
  (try simp only [wSeq, wAsg, wOwn, wF, wLc, wSkip, wBrk, wCnt, wRet, wRetF, wRetN, wDrop, wIfS, wPar, wFor, wWh, wV, wApp, wExt, wSetIx, wAug, wVal, wLook, wC, wOp, wTst, wChain, wAnd, wOr, wNot, wAndV, wOrV, wNotV, wIf, wNil, wCons, wTup, wLst, wCall, wCB, wIsT, wiR1, wiR2, wiSq, wiEn, wiZip, gN, gT1, gT2, gT3, gT4, gT5, gT6, gT7, wYes, gAdd, DV.gSub, gMul, gMod, gDiv, gPow, gLt, gLe, gGt, gGe, gCmp, gEq, gNe, gIs, gIsN, DV.isNon, gIn, gNotIn, gIx, gSlc, wSlc, wNoP, wPart, gLen, gAbs, gInt, gMin2, gMax2, gAll, gAny, gSum, gTuple, wNeg, wRev, itemsOf, D.isTy, D.isHand, Sl.toD, big_0, big_1, big_2, big_3, big_4, big_5, big_6, big_7, big_8, big_9, big_10, big_11, big_12, draw_iff, own_ex, val_ex, wipeE, restE, Sl.keep, Option.getD_some, get_z, get_s, set_z, set_s, List.length_cons, List.length_nil, atI_0, atI_1, atI_2, atI_3, atI_4, ixN_5_0, ixN_5_1, ixN_5_2, ixN_5_3, ixN_5_4, D.bl.injEq, D.int.injEq, D.lst.injEq, D.tup.injEq, D.str.injEq, Sl.own.injEq, Sl.val.injEq, Option.some.injEq, exists_eq_left', exists_eq_left, exists_eq', exists_eq, or_true, true_or, or_false, false_or, CMul, CPow, natAbs_10, natAbs_2, Int.cast_ofNat_Int, Nat.reducePow, exists_and_left, exists_const, and_assoc, true_and, and_true, and_self, false_and, and_false, if_true, if_false, ite_true, ite_false, reduceCtorEq, decide_true, decide_false, decide_eq_true_eq, decide_eq_false_iff_not, Bool.not_true, Bool.not_false, Bool.false_eq_true, List.replicate_zero, List.replicate_succ, List.map_cons, List.map_nil, List.nil_append, List.cons_append, Nat.reduceSub, Nat.reduceAdd, Nat.reduceLeDiff, Nat.reduceLT, Int.reduceLT, Int.reduceLE, Int.reduceAdd, Int.reduceSub, Int.reduceMul, Int.reduceNeg, Int.reduceMod, Int.reduceDiv, Int.reducePow, Int.reduceToNat, okD_int, okD_bl, okD_lst, okD_tup, okD_non, okL_nil, okL_cons, okD_str, okL_int, eqD_int, eqD_bl, eqD_str, eqD_tup, eqD_lst, eqL_cons, eqL_nil, eqL_cn, eqL_nc, eqL_int, Bool.and_eq_true, Bool.or_eq_true, Bool.not_eq_true', Bool.and_false, Bool.false_and, Bool.or_false, Bool.false_or, Bool.or_true, Bool.true_or, Bool.and_true, Bool.true_and, Bool.and_self, wIsT2, wDct0, wLstOf, wRepF, wAsgH, DV.hN, hIx, hCons, hNil, hTup, wLM, gCnt, gIdx, gList, gSorted, wAppPop, wRaise0, wRaise1, wTry, wIsE, wAct, wFl, flD, okD_bl])
  intro _
  unfold B_law_4
  (try simp only [wSeq, wAsg, wOwn, wF, wLc, wSkip, wBrk, wCnt, wRet, wRetF, wRetN, wDrop, wIfS, wPar, wFor, wWh, wV, wApp, wExt, wSetIx, wAug, wVal, wLook, wC, wOp, wTst, wChain, wAnd, wOr, wNot, wAndV, wOrV, wNotV, wIf, wNil, wCons, wTup, wLst, wCall, wCB, wIsT, wiR1, wiR2, wiSq, wiEn, wiZip, gN, gT1, gT2, gT3, gT4, gT5, gT6, gT7, wYes, gAdd, DV.gSub, gMul, gMod, gDiv, gPow, gLt, gLe, gGt, gGe, gCmp, gEq, gNe, gIs, gIsN, DV.isNon, gIn, gNotIn, gIx, gSlc, wSlc, wNoP, wPart, gLen, gAbs, gInt, gMin2, gMax2, gAll, gAny, gSum, gTuple, wNeg, wRev, itemsOf, D.isTy, D.isHand, Sl.toD, big_0, big_1, big_2, big_3, big_4, big_5, big_6, big_7, big_8, big_9, big_10, big_11, big_12, draw_iff, own_ex, val_ex, wipeE, restE, Sl.keep, Option.getD_some, get_z, get_s, set_z, set_s, List.length_cons, List.length_nil, atI_0, atI_1, atI_2, atI_3, atI_4, ixN_5_0, ixN_5_1, ixN_5_2, ixN_5_3, ixN_5_4, D.bl.injEq, D.int.injEq, D.lst.injEq, D.tup.injEq, D.str.injEq, Sl.own.injEq, Sl.val.injEq, Option.some.injEq, exists_eq_left', exists_eq_left, exists_eq', exists_eq, or_true, true_or, or_false, false_or, CMul, CPow, natAbs_10, natAbs_2, Int.cast_ofNat_Int, Nat.reducePow, exists_and_left, exists_const, and_assoc, true_and, and_true, and_self, false_and, and_false, if_true, if_false, ite_true, ite_false, reduceCtorEq, decide_true, decide_false, decide_eq_true_eq, decide_eq_false_iff_not, Bool.not_true, Bool.not_false, Bool.false_eq_true, List.replicate_zero, List.replicate_succ, List.map_cons, List.map_nil, List.nil_append, List.cons_append, Nat.reduceSub, Nat.reduceAdd, Nat.reduceLeDiff, Nat.reduceLT, Int.reduceLT, Int.reduceLE, Int.reduceAdd, Int.reduceSub, Int.reduceMul, Int.reduceNeg, Int.reduceMod, Int.reduceDiv, Int.reducePow, Int.reduceToNat, okD_int, okD_bl, okD_lst, okD_tup, okD_non, okL_nil, okL_cons, okD_str, okL_int, eqD_int, eqD_bl, eqD_str, eqD_tup, eqD_lst, eqL_cons, eqL_nil, eqL_cn, eqL_nc, eqL_int, Bool.and_eq_true, Bool.or_eq_true, Bool.not_eq_true', Bool.and_false, Bool.false_and, Bool.or_false, Bool.false_or, Bool.or_true, Bool.true_or, Bool.and_true, Bool.true_and, Bool.and_self, wIsT2, wDct0, wLstOf, wRepF, wAsgH, DV.hN, hIx, hCons, hNil, hTup, wLM, gCnt, gIdx, gList, gSorted, wAppPop, wRaise0, wRaise1, wTry, wIsE, wAct, wFl, flD, okD_bl])
  refine sp_swap_told c11 (ws := [1, 3]) u13 (by decide) (by decide) ?_
  rw [p4]
  (try simp only [wSeq, wAsg, wOwn, wF, wLc, wSkip, wBrk, wCnt, wRet, wRetF, wRetN, wDrop, wIfS, wPar, wFor, wWh, wV, wApp, wExt, wSetIx, wAug, wVal, wLook, wC, wOp, wTst, wChain, wAnd, wOr, wNot, wAndV, wOrV, wNotV, wIf, wNil, wCons, wTup, wLst, wCall, wCB, wIsT, wiR1, wiR2, wiSq, wiEn, wiZip, gN, gT1, gT2, gT3, gT4, gT5, gT6, gT7, wYes, gAdd, DV.gSub, gMul, gMod, gDiv, gPow, gLt, gLe, gGt, gGe, gCmp, gEq, gNe, gIs, gIsN, DV.isNon, gIn, gNotIn, gIx, gSlc, wSlc, wNoP, wPart, gLen, gAbs, gInt, gMin2, gMax2, gAll, gAny, gSum, gTuple, wNeg, wRev, itemsOf, D.isTy, D.isHand, Sl.toD, big_0, big_1, big_2, big_3, big_4, big_5, big_6, big_7, big_8, big_9, big_10, big_11, big_12, draw_iff, own_ex, val_ex, wipeE, restE, Sl.keep, Option.getD_some, get_z, get_s, set_z, set_s, List.length_cons, List.length_nil, atI_0, atI_1, atI_2, atI_3, atI_4, ixN_5_0, ixN_5_1, ixN_5_2, ixN_5_3, ixN_5_4, D.bl.injEq, D.int.injEq, D.lst.injEq, D.tup.injEq, D.str.injEq, Sl.own.injEq, Sl.val.injEq, Option.some.injEq, exists_eq_left', exists_eq_left, exists_eq', exists_eq, or_true, true_or, or_false, false_or, CMul, CPow, natAbs_10, natAbs_2, Int.cast_ofNat_Int, Nat.reducePow, exists_and_left, exists_const, and_assoc, true_and, and_true, and_self, false_and, and_false, if_true, if_false, ite_true, ite_false, reduceCtorEq, decide_true, decide_false, decide_eq_true_eq, decide_eq_false_iff_not, Bool.not_true, Bool.not_false, Bool.false_eq_true, List.replicate_zero, List.replicate_succ, List.map_cons, List.map_nil, List.nil_append, List.cons_append, Nat.reduceSub, Nat.reduceAdd, Nat.reduceLeDiff, Nat.reduceLT, Int.reduceLT, Int.reduceLE, Int.reduceAdd, Int.reduceSub, Int.reduceMul, Int.reduceNeg, Int.reduceMod, Int.reduceDiv, Int.reducePow, Int.reduceToNat, okD_int, okD_bl, okD_lst, okD_tup, okD_non, okL_nil, okL_cons, okD_str, okL_int, eqD_int, eqD_bl, eqD_str, eqD_tup, eqD_lst, eqL_cons, eqL_nil, eqL_cn, eqL_nc, eqL_int, Bool.and_eq_true, Bool.or_eq_true, Bool.not_eq_true', Bool.and_false, Bool.false_and, Bool.or_false, Bool.false_or, Bool.or_true, Bool.true_or, Bool.and_true, Bool.true_and, Bool.and_self, wIsT2, wDct0, wLstOf, wRepF, wAsgH, DV.hN, hIx, hCons, hNil, hTup, wLM, gCnt, gIdx, gList, gSorted, wAppPop, wRaise0, wRaise1, wTry, wIsE, wAct, wFl, flD, okD_bl])
  intro _
  refine sp_law_is ?_ ?_
  · refine ⟨by decide, fun x hx => ?_⟩
    rw [← p1, ← p2, ← p3] at hx
    simp only [List.mem_cons, List.not_mem_nil, or_false] at hx
    rcases hx with rfl | rfl | rfl | rfl <;> exact ok_least
  (try simp only [wSeq, wAsg, wOwn, wF, wLc, wSkip, wBrk, wCnt, wRet, wRetF, wRetN, wDrop, wIfS, wPar, wFor, wWh, wV, wApp, wExt, wSetIx, wAug, wVal, wLook, wC, wOp, wTst, wChain, wAnd, wOr, wNot, wAndV, wOrV, wNotV, wIf, wNil, wCons, wTup, wLst, wCall, wCB, wIsT, wiR1, wiR2, wiSq, wiEn, wiZip, gN, gT1, gT2, gT3, gT4, gT5, gT6, gT7, wYes, gAdd, DV.gSub, gMul, gMod, gDiv, gPow, gLt, gLe, gGt, gGe, gCmp, gEq, gNe, gIs, gIsN, DV.isNon, gIn, gNotIn, gIx, gSlc, wSlc, wNoP, wPart, gLen, gAbs, gInt, gMin2, gMax2, gAll, gAny, gSum, gTuple, wNeg, wRev, itemsOf, D.isTy, D.isHand, Sl.toD, big_0, big_1, big_2, big_3, big_4, big_5, big_6, big_7, big_8, big_9, big_10, big_11, big_12, draw_iff, own_ex, val_ex, wipeE, restE, Sl.keep, Option.getD_some, get_z, get_s, set_z, set_s, List.length_cons, List.length_nil, atI_0, atI_1, atI_2, atI_3, atI_4, ixN_5_0, ixN_5_1, ixN_5_2, ixN_5_3, ixN_5_4, D.bl.injEq, D.int.injEq, D.lst.injEq, D.tup.injEq, D.str.injEq, Sl.own.injEq, Sl.val.injEq, Option.some.injEq, exists_eq_left', exists_eq_left, exists_eq', exists_eq, or_true, true_or, or_false, false_or, CMul, CPow, natAbs_10, natAbs_2, Int.cast_ofNat_Int, Nat.reducePow, exists_and_left, exists_const, and_assoc, true_and, and_true, and_self, false_and, and_false, if_true, if_false, ite_true, ite_false, reduceCtorEq, decide_true, decide_false, decide_eq_true_eq, decide_eq_false_iff_not, Bool.not_true, Bool.not_false, Bool.false_eq_true, List.replicate_zero, List.replicate_succ, List.map_cons, List.map_nil, List.nil_append, List.cons_append, Nat.reduceSub, Nat.reduceAdd, Nat.reduceLeDiff, Nat.reduceLT, Int.reduceLT, Int.reduceLE, Int.reduceAdd, Int.reduceSub, Int.reduceMul, Int.reduceNeg, Int.reduceMod, Int.reduceDiv, Int.reducePow, Int.reduceToNat, okD_int, okD_bl, okD_lst, okD_tup, okD_non, okL_nil, okL_cons, okD_str, okL_int, eqD_int, eqD_bl, eqD_str, eqD_tup, eqD_lst, eqL_cons, eqL_nil, eqL_cn, eqL_nc, eqL_int, Bool.and_eq_true, Bool.or_eq_true, Bool.not_eq_true', Bool.and_false, Bool.false_and, Bool.or_false, Bool.false_or, Bool.or_true, Bool.true_or, Bool.and_true, Bool.true_and, Bool.and_self, wIsT2, wDct0, wLstOf, wRepF, wAsgH, DV.hN, hIx, hCons, hNil, hTup, wLM, gCnt, gIdx, gList, gSorted, wAppPop, wRaise0, wRaise1, wTry, wIsE, wAct, wFl, flD, okD_bl])
  unfold B_law_6
  (try simp only [wSeq, wAsg, wOwn, wF, wLc, wSkip, wBrk, wCnt, wRet, wRetF, wRetN, wDrop, wIfS, wPar, wFor, wWh, wV, wApp, wExt, wSetIx, wAug, wVal, wLook, wC, wOp, wTst, wChain, wAnd, wOr, wNot, wAndV, wOrV, wNotV, wIf, wNil, wCons, wTup, wLst, wCall, wCB, wIsT, wiR1, wiR2, wiSq, wiEn, wiZip, gN, gT1, gT2, gT3, gT4, gT5, gT6, gT7, wYes, gAdd, DV.gSub, gMul, gMod, gDiv, gPow, gLt, gLe, gGt, gGe, gCmp, gEq, gNe, gIs, gIsN, DV.isNon, gIn, gNotIn, gIx, gSlc, wSlc, wNoP, wPart, gLen, gAbs, gInt, gMin2, gMax2, gAll, gAny, gSum, gTuple, wNeg, wRev, itemsOf, D.isTy, D.isHand, Sl.toD, big_0, big_1, big_2, big_3, big_4, big_5, big_6, big_7, big_8, big_9, big_10, big_11, big_12, draw_iff, own_ex, val_ex, wipeE, restE, Sl.keep, Option.getD_some, get_z, get_s, set_z, set_s, List.length_cons, List.length_nil, atI_0, atI_1, atI_2, atI_3, atI_4, ixN_5_0, ixN_5_1, ixN_5_2, ixN_5_3, ixN_5_4, D.bl.injEq, D.int.injEq, D.lst.injEq, D.tup.injEq, D.str.injEq, Sl.own.injEq, Sl.val.injEq, Option.some.injEq, exists_eq_left', exists_eq_left, exists_eq', exists_eq, or_true, true_or, or_false, false_or, CMul, CPow, natAbs_10, natAbs_2, Int.cast_ofNat_Int, Nat.reducePow, exists_and_left, exists_const, and_assoc, true_and, and_true, and_self, false_and, and_false, if_true, if_false, ite_true, ite_false, reduceCtorEq, decide_true, decide_false, decide_eq_true_eq, decide_eq_false_iff_not, Bool.not_true, Bool.not_false, Bool.false_eq_true, List.replicate_zero, List.replicate_succ, List.map_cons, List.map_nil, List.nil_append, List.cons_append, Nat.reduceSub, Nat.reduceAdd, Nat.reduceLeDiff, Nat.reduceLT, Int.reduceLT, Int.reduceLE, Int.reduceAdd, Int.reduceSub, Int.reduceMul, Int.reduceNeg, Int.reduceMod, Int.reduceDiv, Int.reducePow, Int.reduceToNat, okD_int, okD_bl, okD_lst, okD_tup, okD_non, okL_nil, okL_cons, okD_str, okL_int, eqD_int, eqD_bl, eqD_str, eqD_tup, eqD_lst, eqL_cons, eqL_nil, eqL_cn, eqL_nc, eqL_int, Bool.and_eq_true, Bool.or_eq_true, Bool.not_eq_true', Bool.and_false, Bool.false_and, Bool.or_false, Bool.false_or, Bool.or_true, Bool.true_or, Bool.and_true, Bool.true_and, Bool.and_self, wIsT2, wDct0, wLstOf, wRepF, wAsgH, DV.hN, hIx, hCons, hNil, hTup, wLM, gCnt, gIdx, gList, gSorted, wAppPop, wRaise0, wRaise1, wTry, wIsE, wAct, wFl, flD, okD_bl])
  refine ⟨by decide, ?_⟩
  rw [rangeD_map]
  refine lc_map (fun _ => .bl true) (fun x hx K' hk => ?_) fun a => ?_
  · obtain ⟨i, _, rfl⟩ := List.mem_map.mp hx
    (try simp only [wSeq, wAsg, wOwn, wF, wLc, wSkip, wBrk, wCnt, wRet, wRetF, wRetN, wDrop, wIfS, wPar, wFor, wWh, wV, wApp, wExt, wSetIx, wAug, wVal, wLook, wC, wOp, wTst, wChain, wAnd, wOr, wNot, wAndV, wOrV, wNotV, wIf, wNil, wCons, wTup, wLst, wCall, wCB, wIsT, wiR1, wiR2, wiSq, wiEn, wiZip, gN, gT1, gT2, gT3, gT4, gT5, gT6, gT7, wYes, gAdd, DV.gSub, gMul, gMod, gDiv, gPow, gLt, gLe, gGt, gGe, gCmp, gEq, gNe, gIs, gIsN, DV.isNon, gIn, gNotIn, gIx, gSlc, wSlc, wNoP, wPart, gLen, gAbs, gInt, gMin2, gMax2, gAll, gAny, gSum, gTuple, wNeg, wRev, itemsOf, D.isTy, D.isHand, Sl.toD, big_0, big_1, big_2, big_3, big_4, big_5, big_6, big_7, big_8, big_9, big_10, big_11, big_12, draw_iff, own_ex, val_ex, wipeE, restE, Sl.keep, Option.getD_some, get_z, get_s, set_z, set_s, List.length_cons, List.length_nil, atI_0, atI_1, atI_2, atI_3, atI_4, ixN_5_0, ixN_5_1, ixN_5_2, ixN_5_3, ixN_5_4, D.bl.injEq, D.int.injEq, D.lst.injEq, D.tup.injEq, D.str.injEq, Sl.own.injEq, Sl.val.injEq, Option.some.injEq, exists_eq_left', exists_eq_left, exists_eq', exists_eq, or_true, true_or, or_false, false_or, CMul, CPow, natAbs_10, natAbs_2, Int.cast_ofNat_Int, Nat.reducePow, exists_and_left, exists_const, and_assoc, true_and, and_true, and_self, false_and, and_false, if_true, if_false, ite_true, ite_false, reduceCtorEq, decide_true, decide_false, decide_eq_true_eq, decide_eq_false_iff_not, Bool.not_true, Bool.not_false, Bool.false_eq_true, List.replicate_zero, List.replicate_succ, List.map_cons, List.map_nil, List.nil_append, List.cons_append, Nat.reduceSub, Nat.reduceAdd, Nat.reduceLeDiff, Nat.reduceLT, Int.reduceLT, Int.reduceLE, Int.reduceAdd, Int.reduceSub, Int.reduceMul, Int.reduceNeg, Int.reduceMod, Int.reduceDiv, Int.reducePow, Int.reduceToNat, okD_int, okD_bl, okD_lst, okD_tup, okD_non, okL_nil, okL_cons, okD_str, okL_int, eqD_int, eqD_bl, eqD_str, eqD_tup, eqD_lst, eqL_cons, eqL_nil, eqL_cn, eqL_nc, eqL_int, Bool.and_eq_true, Bool.or_eq_true, Bool.not_eq_true', Bool.and_false, Bool.false_and, Bool.or_false, Bool.false_or, Bool.or_true, Bool.true_or, Bool.and_true, Bool.true_and, Bool.and_self, wIsT2, wDct0, wLstOf, wRepF, wAsgH, DV.hN, hIx, hCons, hNil, hTup, wLM, gCnt, gIdx, gList, gSorted, wAppPop, wRaise0, wRaise1, wTry, wIsE, wAct, wFl, flD, okD_bl])
    refine sp_is_right ?_
    (try simp only [wSeq, wAsg, wOwn, wF, wLc, wSkip, wBrk, wCnt, wRet, wRetF, wRetN, wDrop, wIfS, wPar, wFor, wWh, wV, wApp, wExt, wSetIx, wAug, wVal, wLook, wC, wOp, wTst, wChain, wAnd, wOr, wNot, wAndV, wOrV, wNotV, wIf, wNil, wCons, wTup, wLst, wCall, wCB, wIsT, wiR1, wiR2, wiSq, wiEn, wiZip, gN, gT1, gT2, gT3, gT4, gT5, gT6, gT7, wYes, gAdd, DV.gSub, gMul, gMod, gDiv, gPow, gLt, gLe, gGt, gGe, gCmp, gEq, gNe, gIs, gIsN, DV.isNon, gIn, gNotIn, gIx, gSlc, wSlc, wNoP, wPart, gLen, gAbs, gInt, gMin2, gMax2, gAll, gAny, gSum, gTuple, wNeg, wRev, itemsOf, D.isTy, D.isHand, Sl.toD, big_0, big_1, big_2, big_3, big_4, big_5, big_6, big_7, big_8, big_9, big_10, big_11, big_12, draw_iff, own_ex, val_ex, wipeE, restE, Sl.keep, Option.getD_some, get_z, get_s, set_z, set_s, List.length_cons, List.length_nil, atI_0, atI_1, atI_2, atI_3, atI_4, ixN_5_0, ixN_5_1, ixN_5_2, ixN_5_3, ixN_5_4, D.bl.injEq, D.int.injEq, D.lst.injEq, D.tup.injEq, D.str.injEq, Sl.own.injEq, Sl.val.injEq, Option.some.injEq, exists_eq_left', exists_eq_left, exists_eq', exists_eq, or_true, true_or, or_false, false_or, CMul, CPow, natAbs_10, natAbs_2, Int.cast_ofNat_Int, Nat.reducePow, exists_and_left, exists_const, and_assoc, true_and, and_true, and_self, false_and, and_false, if_true, if_false, ite_true, ite_false, reduceCtorEq, decide_true, decide_false, decide_eq_true_eq, decide_eq_false_iff_not, Bool.not_true, Bool.not_false, Bool.false_eq_true, List.replicate_zero, List.replicate_succ, List.map_cons, List.map_nil, List.nil_append, List.cons_append, Nat.reduceSub, Nat.reduceAdd, Nat.reduceLeDiff, Nat.reduceLT, Int.reduceLT, Int.reduceLE, Int.reduceAdd, Int.reduceSub, Int.reduceMul, Int.reduceNeg, Int.reduceMod, Int.reduceDiv, Int.reducePow, Int.reduceToNat, okD_int, okD_bl, okD_lst, okD_tup, okD_non, okL_nil, okL_cons, okD_str, okL_int, eqD_int, eqD_bl, eqD_str, eqD_tup, eqD_lst, eqL_cons, eqL_nil, eqL_cn, eqL_nc, eqL_int, Bool.and_eq_true, Bool.or_eq_true, Bool.not_eq_true', Bool.and_false, Bool.false_and, Bool.or_false, Bool.false_or, Bool.or_true, Bool.true_or, Bool.and_true, Bool.true_and, Bool.and_self, wIsT2, wDct0, wLstOf, wRepF, wAsgH, DV.hN, hIx, hCons, hNil, hTup, wLM, gCnt, gIdx, gList, gSorted, wAppPop, wRaise0, wRaise1, wTry, wIsE, wAct, wFl, flD, okD_bl])
    exact sp_refused hk
  · have tb : toBs (((rangeI 0 6).map D.int).map fun _ => .bl true) = some ((rangeI 0 6).map fun _ => true) := by
      rw [← toBs_map, List.map_map, List.map_map]; rfl
    have al : ((rangeI 0 6).map fun _ => true).all id = true := by simp
    simp only [wSeq, wAsg, wOwn, wF, wLc, wSkip, wBrk, wCnt, wRet, wRetF, wRetN, wDrop, wIfS, wPar, wFor, wWh, wV, wApp, wExt, wSetIx, wAug, wVal, wLook, wC, wOp, wTst, wChain, wAnd, wOr, wNot, wAndV, wOrV, wNotV, wIf, wNil, wCons, wTup, wLst, wCall, wCB, wIsT, wiR1, wiR2, wiSq, wiEn, wiZip, gN, gT1, gT2, gT3, gT4, gT5, gT6, gT7, wYes, gAdd, DV.gSub, gMul, gMod, gDiv, gPow, gLt, gLe, gGt, gGe, gCmp, gEq, gNe, gIs, gIsN, DV.isNon, gIn, gNotIn, gIx, gSlc, wSlc, wNoP, wPart, gLen, gAbs, gInt, gMin2, gMax2, gAll, gAny, gSum, gTuple, wNeg, wRev, itemsOf, D.isTy, D.isHand, Sl.toD, big_0, big_1, big_2, big_3, big_4, big_5, big_6, big_7, big_8, big_9, big_10, big_11, big_12, draw_iff, own_ex, val_ex, wipeE, restE, Sl.keep, Option.getD_some, get_z, get_s, set_z, set_s, List.length_cons, List.length_nil, atI_0, atI_1, atI_2, atI_3, atI_4, ixN_5_0, ixN_5_1, ixN_5_2, ixN_5_3, ixN_5_4, D.bl.injEq, D.int.injEq, D.lst.injEq, D.tup.injEq, D.str.injEq, Sl.own.injEq, Sl.val.injEq, Option.some.injEq, exists_eq_left', exists_eq_left, exists_eq', exists_eq, or_true, true_or, or_false, false_or, CMul, CPow, natAbs_10, natAbs_2, Int.cast_ofNat_Int, Nat.reducePow, exists_and_left, exists_const, and_assoc, true_and, and_true, and_self, false_and, and_false, if_true, if_false, ite_true, ite_false, reduceCtorEq, decide_true, decide_false, decide_eq_true_eq, decide_eq_false_iff_not, Bool.not_true, Bool.not_false, Bool.false_eq_true, List.replicate_zero, List.replicate_succ, List.map_cons, List.map_nil, List.nil_append, List.cons_append, Nat.reduceSub, Nat.reduceAdd, Nat.reduceLeDiff, Nat.reduceLT, Int.reduceLT, Int.reduceLE, Int.reduceAdd, Int.reduceSub, Int.reduceMul, Int.reduceNeg, Int.reduceMod, Int.reduceDiv, Int.reducePow, Int.reduceToNat, okD_int, okD_bl, okD_lst, okD_tup, okD_non, okL_nil, okL_cons, okD_str, okL_int, eqD_int, eqD_bl, eqD_str, eqD_tup, eqD_lst, eqL_cons, eqL_nil, eqL_cn, eqL_nc, eqL_int, Bool.and_eq_true, Bool.or_eq_true, Bool.not_eq_true', Bool.and_false, Bool.false_and, Bool.or_false, Bool.false_or, Bool.or_true, Bool.true_or, Bool.and_true, Bool.true_and, Bool.and_self, wIsT2, wDct0, wLstOf, wRepF, wAsgH, DV.hN, hIx, hCons, hNil, hTup, wLM, gCnt, gIdx, gList, gSorted, wAppPop, wRaise0, wRaise1, wTry, wIsE, wAct, wFl, flD, okD_bl, tb, al]
end Law

set_option Elab.async false
set_option linter.all false
set_option maxRecDepth 100000
namespace Law
open PySem PySem.Spec PyProof.Rows L2 DV
/-- what the top has written, for law -/
theorem all_mk {l : PySem.W.OpenLaw} {w : World} {K : PySem.W.Frag} {h : Heap} {mg : Str → Option Value} {fa f1 f2 f3 f4 f5 f6 f7 f8 f9 f10 f11 f12 f13 f14 f15 f16 f17 f18 f19 C_CheckError C_NoNumber C_NoWeights g_CheckError : Addr} (X : K.In h) (hG : h.Ns mainGlobals mg) (hfa : mg "law" = some (.ref fa))
    {od1 an1 : Option Addr} {sl1 : Array (Option Value)} {oc1 kV1 dc1 pm1 ct1 cd1 : Value}
    {od2 an2 : Option Addr} {sl2 : Array (Option Value)} {oc2 kV2 dc2 pm2 ct2 cd2 : Value}
    {od3 an3 : Option Addr} {sl3 : Array (Option Value)} {oc3 kV3 dc3 pm3 ct3 cd3 : Value}
    {od4 an4 : Option Addr} {sl4 : Array (Option Value)} {oc4 kV4 dc4 pm4 ct4 cd4 : Value}
    {od5 an5 : Option Addr} {sl5 : Array (Option Value)} {oc5 kV5 dc5 pm5 ct5 cd5 : Value}
    {od6 an6 : Option Addr} {sl6 : Array (Option Value)} {oc6 kV6 dc6 pm6 ct6 cd6 : Value}
    {od7 an7 : Option Addr} {sl7 : Array (Option Value)} {oc7 kV7 dc7 pm7 ct7 cd7 : Value}
    {od8 an8 : Option Addr} {sl8 : Array (Option Value)} {oc8 kV8 dc8 pm8 ct8 cd8 : Value}
    {od9 an9 : Option Addr} {sl9 : Array (Option Value)} {oc9 kV9 dc9 pm9 ct9 cd9 : Value}
    {od10 an10 : Option Addr} {sl10 : Array (Option Value)} {oc10 kV10 dc10 pm10 ct10 cd10 : Value}
    {od11 an11 : Option Addr} {sl11 : Array (Option Value)} {oc11 kV11 dc11 pm11 ct11 cd11 : Value}
    {od12 an12 : Option Addr} {sl12 : Array (Option Value)} {oc12 kV12 dc12 pm12 ct12 cd12 : Value}
    {od13 an13 : Option Addr} {sl13 : Array (Option Value)} {oc13 kV13 dc13 pm13 ct13 cd13 : Value}
    {od14 an14 : Option Addr} {sl14 : Array (Option Value)} {oc14 kV14 dc14 pm14 ct14 cd14 : Value}
    {od15 an15 : Option Addr} {sl15 : Array (Option Value)} {oc15 kV15 dc15 pm15 ct15 cd15 : Value}
    {od16 an16 : Option Addr} {sl16 : Array (Option Value)} {oc16 kV16 dc16 pm16 ct16 cd16 : Value}
    {od17 an17 : Option Addr} {sl17 : Array (Option Value)} {oc17 kV17 dc17 pm17 ct17 cd17 : Value}
    {od18 an18 : Option Addr} {sl18 : Array (Option Value)} {oc18 kV18 dc18 pm18 ct18 : Value} {cc18 PT18 : Addr} {v18 : Array Value} {e18 : Value} {d18 : Option Addr} {s18 : Array (Option Value)}
    {od19 an19 : Option Addr} {sl19 : Array (Option Value)} {oc19 kV19 dc19 pm19 ct19 cd19 : Value}
    {nm_CheckError qq_CheckError : Str} {N_CheckError : Addr} {bs_CheckError sub_CheckError : List Value} {sn_CheckError : List Str} {ab_CheckError : Bool} {col_CheckError : Option Bool} {dd_CheckError : Option Addr} {m0_CheckError m1_CheckError m2_CheckError m3_CheckError m5_CheckError : Option Value}
    {nm_NoNumber qq_NoNumber : Str} {N_NoNumber : Addr} {bs_NoNumber sub_NoNumber : List Value} {sn_NoNumber : List Str} {ab_NoNumber : Bool} {col_NoNumber : Option Bool} {dd_NoNumber : Option Addr} {m0_NoNumber m1_NoNumber m2_NoNumber m3_NoNumber m5_NoNumber : Option Value}
    {nm_NoWeights qq_NoWeights : Str} {N_NoWeights : Addr} {bs_NoWeights sub_NoWeights : List Value} {sn_NoWeights : List Str} {ab_NoWeights : Bool} {col_NoWeights : Option Bool} {dd_NoWeights : Option Addr} {m0_NoWeights m1_NoWeights m2_NoWeights m3_NoWeights m5_NoWeights : Option Value}
    {od_CheckError an_CheckError : Option Addr} {sl_CheckError : Array (Option Value)} {oc_CheckError kV_CheckError dc_CheckError pm_CheckError ct_CheckError cd_CheckError : Value}
    {tk_MOST_BY tk_MOST_LONG : Tok}
    (tb18 : TabOf K mg "_law_are_refused" h)
    (a1 : PySem.W.nsIn K mainGlobals "_law_hand" = some (some (.ref f1)))
    (l1 : K.lookup f1 = some ⟨oc1, od1, .func (PySem.W.fnOf "_law_hand" "_law_hand" (defArgs s__law_hand) (defBody s__law_hand) (defScope s__law_hand) .none kV1 dc1 pm1 an1 cd1 ct1), sl1⟩)
    (c1 : PySem.W.codeIn K cd1 "_law_hand" = true)
    (k1 : PySem.W.keepIn K (.ref f1) = true)
    (a2 : PySem.W.nsIn K mainGlobals "_law_is" = some (some (.ref f2)))
    (l2 : K.lookup f2 = some ⟨oc2, od2, .func (PySem.W.fnOf "_law_is" "_law_is" (defArgs s__law_is) (defBody s__law_is) (defScope s__law_is) .none kV2 dc2 pm2 an2 cd2 ct2), sl2⟩)
    (c2 : PySem.W.codeIn K cd2 "_law_is" = true)
    (k2 : PySem.W.keepIn K (.ref f2) = true)
    (a3 : PySem.W.nsIn K mainGlobals "_law_least" = some (some (.ref f3)))
    (l3 : K.lookup f3 = some ⟨oc3, od3, .func (PySem.W.fnOf "_law_least" "_law_least" (defArgs s__law_least) (defBody s__law_least) (defScope s__law_least) .none kV3 dc3 pm3 an3 cd3 ct3), sl3⟩)
    (c3 : PySem.W.codeIn K cd3 "_law_least" = true)
    (k3 : PySem.W.keepIn K (.ref f3) = true)
    (a4 : PySem.W.nsIn K mainGlobals "is_unseen" = some (some (.ref f4)))
    (l4 : K.lookup f4 = some ⟨oc4, od4, .func (PySem.W.fnOf "is_unseen" "is_unseen" (defArgs s_is_unseen) (defBody s_is_unseen) (defScope s_is_unseen) .none kV4 dc4 pm4 an4 cd4 ct4), sl4⟩)
    (c4 : PySem.W.codeIn K cd4 "is_unseen" = true)
    (k4 : PySem.W.keepIn K (.ref f4) = true)
    (a5 : PySem.W.nsIn K mainGlobals "is_integer" = some (some (.ref f5)))
    (l5 : K.lookup f5 = some ⟨oc5, od5, .func (PySem.W.fnOf "is_integer" "is_integer" (defArgs s_is_integer) (defBody s_is_integer) (defScope s_is_integer) .none kV5 dc5 pm5 an5 cd5 ct5), sl5⟩)
    (c5 : PySem.W.codeIn K cd5 "is_integer" = true)
    (k5 : PySem.W.keepIn K (.ref f5) = true)
    (a6 : PySem.W.nsIn K mainGlobals "is_within" = some (some (.ref f6)))
    (l6 : K.lookup f6 = some ⟨oc6, od6, .func (PySem.W.fnOf "is_within" "is_within" (defArgs s_is_within) (defBody s_is_within) (defScope s_is_within) .none kV6 dc6 pm6 an6 cd6 ct6), sl6⟩)
    (c6 : PySem.W.codeIn K cd6 "is_within" = true)
    (k6 : PySem.W.keepIn K (.ref f6) = true)
    (a7 : PySem.W.nsIn K mainGlobals "check_number" = some (some (.ref f7)))
    (l7 : K.lookup f7 = some ⟨oc7, od7, .func (PySem.W.fnOf "check_number" "check_number" (defArgs s_check_number) (defBody s_check_number) (defScope s_check_number) .none kV7 dc7 pm7 an7 cd7 ct7), sl7⟩)
    (c7 : PySem.W.codeIn K cd7 "check_number" = true)
    (k7 : PySem.W.keepIn K (.ref f7) = true)
    (a8 : PySem.W.nsIn K mainGlobals "is_sized" = some (some (.ref f8)))
    (l8 : K.lookup f8 = some ⟨oc8, od8, .func (PySem.W.fnOf "is_sized" "is_sized" (defArgs s_is_sized) (defBody s_is_sized) (defScope s_is_sized) .none kV8 dc8 pm8 an8 cd8 ct8), sl8⟩)
    (c8 : PySem.W.codeIn K cd8 "is_sized" = true)
    (k8 : PySem.W.keepIn K (.ref f8) = true)
    (a9 : PySem.W.nsIn K mainGlobals "check_weights" = some (some (.ref f9)))
    (l9 : K.lookup f9 = some ⟨oc9, od9, .func (PySem.W.fnOf "check_weights" "check_weights" (defArgs s_check_weights) (defBody s_check_weights) (defScope s_check_weights) .none kV9 dc9 pm9 an9 cd9 ct9), sl9⟩)
    (c9 : PySem.W.codeIn K cd9 "check_weights" = true)
    (k9 : PySem.W.keepIn K (.ref f9) = true)
    (a10 : PySem.W.nsIn K mainGlobals "swap_told" = some (some (.ref f10)))
    (l10 : K.lookup f10 = some ⟨oc10, od10, .func (PySem.W.fnOf "swap_told" "swap_told" (defArgs s_swap_told) (defBody s_swap_told) (defScope s_swap_told) .none kV10 dc10 pm10 an10 cd10 ct10), sl10⟩)
    (c10 : PySem.W.codeIn K cd10 "swap_told" = true)
    (k10 : PySem.W.keepIn K (.ref f10) = true)
    (a11 : PySem.W.nsIn K mainGlobals "_law_common" = some (some (.ref f11)))
    (l11 : K.lookup f11 = some ⟨oc11, od11, .func (PySem.W.fnOf "_law_common" "_law_common" (defArgs s__law_common) (defBody s__law_common) (defScope s__law_common) .none kV11 dc11 pm11 an11 cd11 ct11), sl11⟩)
    (c11 : PySem.W.codeIn K cd11 "_law_common" = true)
    (k11 : PySem.W.keepIn K (.ref f11) = true)
    (a12 : PySem.W.nsIn K mainGlobals "one_told" = some (some (.ref f12)))
    (l12 : K.lookup f12 = some ⟨oc12, od12, .func (PySem.W.fnOf "one_told" "one_told" (defArgs s_one_told) (defBody s_one_told) (defScope s_one_told) .none kV12 dc12 pm12 an12 cd12 ct12), sl12⟩)
    (c12 : PySem.W.codeIn K cd12 "one_told" = true)
    (k12 : PySem.W.keepIn K (.ref f12) = true)
    (a13 : PySem.W.nsIn K mainGlobals "_law_draw" = some (some (.ref f13)))
    (l13 : K.lookup f13 = some ⟨oc13, od13, .func (PySem.W.fnOf "_law_draw" "_law_draw" (defArgs s__law_draw) (defBody s__law_draw) (defScope s__law_draw) .none kV13 dc13 pm13 an13 cd13 ct13), sl13⟩)
    (c13 : PySem.W.codeIn K cd13 "_law_draw" = true)
    (k13 : PySem.W.keepIn K (.ref f13) = true)
    (a14 : PySem.W.nsIn K mainGlobals "_law_weights" = some (some (.ref f14)))
    (l14 : K.lookup f14 = some ⟨oc14, od14, .func (PySem.W.fnOf "_law_weights" "_law_weights" (defArgs s__law_weights) (defBody s__law_weights) (defScope s__law_weights) .none kV14 dc14 pm14 an14 cd14 ct14), sl14⟩)
    (c14 : PySem.W.codeIn K cd14 "_law_weights" = true)
    (k14 : PySem.W.keepIn K (.ref f14) = true)
    (a15 : PySem.W.nsIn K mainGlobals "_law_some" = some (some (.ref f15)))
    (l15 : K.lookup f15 = some ⟨oc15, od15, .func (PySem.W.fnOf "_law_some" "_law_some" (defArgs s__law_some) (defBody s__law_some) (defScope s__law_some) .none kV15 dc15 pm15 an15 cd15 ct15), sl15⟩)
    (c15 : PySem.W.codeIn K cd15 "_law_some" = true)
    (k15 : PySem.W.keepIn K (.ref f15) = true)
    (a16 : PySem.W.nsIn K mainGlobals "_law_is_right" = some (some (.ref f16)))
    (l16 : K.lookup f16 = some ⟨oc16, od16, .func (PySem.W.fnOf "_law_is_right" "_law_is_right" (defArgs s__law_is_right) (defBody s__law_is_right) (defScope s__law_is_right) .none kV16 dc16 pm16 an16 cd16 ct16), sl16⟩)
    (c16 : PySem.W.codeIn K cd16 "_law_is_right" = true)
    (k16 : PySem.W.keepIn K (.ref f16) = true)
    (a17 : PySem.W.nsIn K mainGlobals "_law_word" = some (some (.ref f17)))
    (l17 : K.lookup f17 = some ⟨oc17, od17, .func (PySem.W.fnOf "_law_word" "_law_word" (defArgs s__law_word) (defBody s__law_word) (defScope s__law_word) .none kV17 dc17 pm17 an17 cd17 ct17), sl17⟩)
    (c17 : PySem.W.codeIn K cd17 "_law_word" = true)
    (k17 : PySem.W.keepIn K (.ref f17) = true)
    (a18 : PySem.W.nsIn K mainGlobals "_law_are_refused" = some (some (.ref f18)))
    (l18 : K.lookup f18 = some ⟨oc18, od18, .func (PySem.W.fnOf "_law_are_refused" "_law_are_refused" (defArgs s__law_are_refused) (defBody s__law_are_refused) (defScope s__law_are_refused) .none kV18 dc18 pm18 an18 (.ref cc18) ct18), sl18⟩)
    (c18 : PySem.W.codeIn K (.ref cc18) "_law_are_refused" = true)
    (k18 : PySem.W.keepIn K (.ref f18) = true)
    (lc18 : K.lookup cc18 = some ⟨e18, d18, .fields v18, s18⟩)
    (pt18 : v18[11]? = some (.ref PT18))
    (hd18 : PySem.W.codeHdIn K cc18 PT18 = true)
    (gP18 : mainGlobals ≠ PT18)
    (nP18 : K.lookup PT18 = none)
    (a19 : PySem.W.nsIn K mainGlobals "law" = some (some (.ref f19)))
    (l19 : K.lookup f19 = some ⟨oc19, od19, .func (PySem.W.fnOf "law" "law" (defArgs s_law) (defBody s_law) (defScope s_law) .none kV19 dc19 pm19 an19 cd19 ct19), sl19⟩)
    (c19 : PySem.W.codeIn K cd19 "law" = true)
    (k19 : PySem.W.keepIn K (.ref f19) = true)
    (z_ValueError : PySem.W.nsIn K mainGlobals "ValueError" = some none)
    (z_abs : PySem.W.nsIn K mainGlobals "abs" = some none)
    (z_all : PySem.W.nsIn K mainGlobals "all" = some none)
    (z_bool : PySem.W.nsIn K mainGlobals "bool" = some none)
    (z_enumerate : PySem.W.nsIn K mainGlobals "enumerate" = some none)
    (z_int : PySem.W.nsIn K mainGlobals "int" = some none)
    (z_isinstance : PySem.W.nsIn K mainGlobals "isinstance" = some none)
    (z_len : PySem.W.nsIn K mainGlobals "len" = some none)
    (z_list : PySem.W.nsIn K mainGlobals "list" = some none)
    (z_range : PySem.W.nsIn K mainGlobals "range" = some none)
    (z_str : PySem.W.nsIn K mainGlobals "str" = some none)
    (z_sum : PySem.W.nsIn K mainGlobals "sum" = some none)
    (z_tuple : PySem.W.nsIn K mainGlobals "tuple" = some none)
    (z_zip : PySem.W.nsIn K mainGlobals "zip" = some none)
    (q_MOST_BY : PySem.W.nsIn K mainGlobals "MOST_BY" = some (some (.int 200 tk_MOST_BY)))
    (q_MOST_LONG : PySem.W.nsIn K mainGlobals "MOST_LONG" = some (some (.int 24 tk_MOST_LONG)))
    (aC_CheckError : PySem.W.nsIn K mainGlobals "CheckError" = some (some (.ref C_CheckError)))
    (aC_NoNumber : PySem.W.nsIn K mainGlobals "NoNumber" = some (some (.ref C_NoNumber)))
    (aC_NoWeights : PySem.W.nsIn K mainGlobals "NoWeights" = some (some (.ref C_NoWeights)))
    (xL_CheckError : K.lookup C_CheckError = some (excClassObj nm_CheckError qq_CheckError C_CheckError N_CheckError bs_CheckError [.type "ValueError", .type "Exception", .type "BaseException", .type "object"] true sn_CheckError sub_CheckError ab_CheckError col_CheckError dd_CheckError m0_CheckError m1_CheckError m2_CheckError m3_CheckError m5_CheckError "ValueError.__new__"))
    (sa_CheckError : PySem.W.findIn K (.ref C_CheckError) "__setattr__" = some (some (.builtin "object.__setattr__")))
    (ga_CheckError : PySem.W.findIn K (.ref C_CheckError) "__getattribute__" = some (some (.builtin "BaseException.__getattribute__")))
    (gg_CheckError : PySem.W.findIn K (.ref C_CheckError) "__getattr__" = some none)
    (i1_CheckError : PySem.W.findIn K (.ref C_CheckError) "__init__" = some (some (.ref g_CheckError)))
    (kC_CheckError : PySem.W.keepIn K (.ref C_CheckError) = true)
    (eC_CheckError : PySem.W.subIn K (.ref C_CheckError) (.type "BaseException") = some true)
    (tC_CheckError : PySem.W.typeIn K (.ref C_CheckError) = some (.type "type"))
    (hC_CheckError : PySem.W.hasDictIn K C_CheckError = true)
    (cl_CheckError : PySem.W.findIn K (.ref C_CheckError) "__class__" = some (some (.builtin "object.__class__")))
    (mO_CheckError : PySem.W.mroIn K C_CheckError (.type "object") = some true)
    (xL_NoNumber : K.lookup C_NoNumber = some (excClassObj nm_NoNumber qq_NoNumber C_NoNumber N_NoNumber bs_NoNumber [.ref C_CheckError, .type "ValueError", .type "Exception", .type "BaseException", .type "object"] true sn_NoNumber sub_NoNumber ab_NoNumber col_NoNumber dd_NoNumber m0_NoNumber m1_NoNumber m2_NoNumber m3_NoNumber m5_NoNumber "ValueError.__new__"))
    (sa_NoNumber : PySem.W.findIn K (.ref C_NoNumber) "__setattr__" = some (some (.builtin "object.__setattr__")))
    (ga_NoNumber : PySem.W.findIn K (.ref C_NoNumber) "__getattribute__" = some (some (.builtin "BaseException.__getattribute__")))
    (gg_NoNumber : PySem.W.findIn K (.ref C_NoNumber) "__getattr__" = some none)
    (i1_NoNumber : PySem.W.findIn K (.ref C_NoNumber) "__init__" = some (some (.ref g_CheckError)))
    (kC_NoNumber : PySem.W.keepIn K (.ref C_NoNumber) = true)
    (eC_NoNumber : PySem.W.subIn K (.ref C_NoNumber) (.type "BaseException") = some true)
    (tC_NoNumber : PySem.W.typeIn K (.ref C_NoNumber) = some (.type "type"))
    (hC_NoNumber : PySem.W.hasDictIn K C_NoNumber = true)
    (cl_NoNumber : PySem.W.findIn K (.ref C_NoNumber) "__class__" = some (some (.builtin "object.__class__")))
    (mO_NoNumber : PySem.W.mroIn K C_NoNumber (.type "object") = some true)
    (xL_NoWeights : K.lookup C_NoWeights = some (excClassObj nm_NoWeights qq_NoWeights C_NoWeights N_NoWeights bs_NoWeights [.ref C_CheckError, .type "ValueError", .type "Exception", .type "BaseException", .type "object"] true sn_NoWeights sub_NoWeights ab_NoWeights col_NoWeights dd_NoWeights m0_NoWeights m1_NoWeights m2_NoWeights m3_NoWeights m5_NoWeights "ValueError.__new__"))
    (sa_NoWeights : PySem.W.findIn K (.ref C_NoWeights) "__setattr__" = some (some (.builtin "object.__setattr__")))
    (ga_NoWeights : PySem.W.findIn K (.ref C_NoWeights) "__getattribute__" = some (some (.builtin "BaseException.__getattribute__")))
    (gg_NoWeights : PySem.W.findIn K (.ref C_NoWeights) "__getattr__" = some none)
    (i1_NoWeights : PySem.W.findIn K (.ref C_NoWeights) "__init__" = some (some (.ref g_CheckError)))
    (kC_NoWeights : PySem.W.keepIn K (.ref C_NoWeights) = true)
    (eC_NoWeights : PySem.W.subIn K (.ref C_NoWeights) (.type "BaseException") = some true)
    (tC_NoWeights : PySem.W.typeIn K (.ref C_NoWeights) = some (.type "type"))
    (hC_NoWeights : PySem.W.hasDictIn K C_NoWeights = true)
    (cl_NoWeights : PySem.W.findIn K (.ref C_NoWeights) "__class__" = some (some (.builtin "object.__class__")))
    (mO_NoWeights : PySem.W.mroIn K C_NoWeights (.type "object") = some true)
    (lI_CheckError : K.lookup g_CheckError = some ⟨oc_CheckError, od_CheckError, .func (PySem.W.fnOf "__init__" "CheckError.__init__" (defArgs s_init_CheckError) (defBody s_init_CheckError) (defScope s_init_CheckError) .none kV_CheckError dc_CheckError pm_CheckError an_CheckError cd_CheckError ct_CheckError), sl_CheckError⟩)
    (cI_CheckError : PySem.W.codeIn K cd_CheckError "CheckError.__init__" = true)
    (kI_CheckError : PySem.W.keepIn K (.ref g_CheckError) = true)
    (tI_CheckError : PySem.W.typeIn K (.ref g_CheckError) = some (.type "function"))
    (hn : PySem.W.specialIn K (.builtin "object.__class__") "__get__" = some (some (.builtin "getset_descriptor.__get__")))
    (ht : PySem.W.takesIn K (.builtin "object.__class__") = some true)
    (vV : PySem.W.findCls K (.type "ValueError") (.type "type") "__init__" = some (.val (.builtin "ValueError.__init__")))
    (s_NoNumber_CheckError : PySem.W.subIn K (.ref C_NoNumber) (.ref C_CheckError) = some true)
    (k_NoNumber_NoNumber : PySem.W.kitOne K (.ref C_NoNumber) (.ref C_NoNumber) = some ((["NoNumber"] : List Str).contains "NoNumber"))
    (k_NoNumber_NoWeights : PySem.W.kitOne K (.ref C_NoNumber) (.ref C_NoWeights) = some ((["NoWeights"] : List Str).contains "NoNumber"))
    (kV_NoNumber : PySem.W.kitOne K (.ref C_NoNumber) (.type "ValueError") = some true)
    (s_NoWeights_CheckError : PySem.W.subIn K (.ref C_NoWeights) (.ref C_CheckError) = some true)
    (k_NoWeights_NoNumber : PySem.W.kitOne K (.ref C_NoWeights) (.ref C_NoNumber) = some ((["NoNumber"] : List Str).contains "NoWeights"))
    (k_NoWeights_NoWeights : PySem.W.kitOne K (.ref C_NoWeights) (.ref C_NoWeights) = some ((["NoWeights"] : List Str).contains "NoWeights"))
    (kV_NoWeights : PySem.W.kitOne K (.ref C_NoWeights) (.type "ValueError") = some true)
    : LamX.LawAtS l w K (L2.CX l.prog w) 9 63 "script" mg fa h := by
  have e := hfa.symm.trans (PySem.W.mg_of X hG a19)
  cases e
  have T : Txt mg := ⟨PySem.W.mg_none_of X hG z_ValueError, PySem.W.mg_none_of X hG z_abs, PySem.W.mg_none_of X hG z_all, PySem.W.mg_none_of X hG z_bool, PySem.W.mg_none_of X hG z_enumerate, PySem.W.mg_none_of X hG z_int, PySem.W.mg_none_of X hG z_isinstance, PySem.W.mg_none_of X hG z_len, PySem.W.mg_none_of X hG z_list, PySem.W.mg_none_of X hG z_range, PySem.W.mg_none_of X hG z_str, PySem.W.mg_none_of X hG z_sum, PySem.W.mg_none_of X hG z_tuple, PySem.W.mg_none_of X hG z_zip, ⟨_, PySem.W.mg_of X hG q_MOST_BY⟩, ⟨_, PySem.W.mg_of X hG q_MOST_LONG⟩⟩
  have F01 := fun_mk (st := s__law_hand) l1 c1 k1
  have F1 := F01
  have b1 := F01.binds (ps := ["script"]) fun _ _ _ _ _ _ us hl => match us, hl with | [_], _ => rfl
  have F02 := fun_mk (st := s__law_is) l2 c2 k2
  have F2 := F02
  have b2 := F02.binds (ps := ["got", "due"]) fun _ _ _ _ _ _ us hl => match us, hl with | [_, _], _ => rfl
  have F03 := fun_mk (st := s__law_least) l3 c3 k3
  have F3 := F03
  have b3 := F03.binds (ps := ["signs", "by", "row"]) fun _ _ _ _ _ _ us hl => match us, hl with | [_, _, _], _ => rfl
  have F04 := fun_mk (st := s_is_unseen) l4 c4 k4
  have F4 := F04
  have b4 := F04.binds (ps := ["by", "number"]) fun _ _ _ _ _ _ us hl => match us, hl with | [_, _], _ => rfl
  have F05 := fun_mk (st := s_is_integer) l5 c5 k5
  have F5 := F05
  have b5 := F05.binds (ps := ["thing"]) fun _ _ _ _ _ _ us hl => match us, hl with | [_], _ => rfl
  have F06 := fun_mk (st := s_is_within) l6 c6 k6
  have F6 := F06
  have b6 := F06.binds (ps := ["thing", "least", "most"]) fun _ _ _ _ _ _ us hl => match us, hl with | [_, _, _], _ => rfl
  have F07 := fun_mk (st := s_check_number) l7 c7 k7
  have F7 := F07
  have b7 := F07.binds (ps := ["thing", "least", "most"]) fun _ _ _ _ _ _ us hl => match us, hl with | [_, _, _], _ => rfl
  have F08 := fun_mk (st := s_is_sized) l8 c8 k8
  have F8 := F08
  have b8 := F08.binds (ps := ["thing", "least", "most"]) fun _ _ _ _ _ _ us hl => match us, hl with | [_, _, _], _ => rfl
  have F09 := fun_mk (st := s_check_weights) l9 c9 k9
  have F9 := F09
  have b9 := F09.binds (ps := ["signs", "by", "thing"]) fun _ _ _ _ _ _ us hl => match us, hl with | [_, _, _], _ => rfl
  have F010 := fun_mk (st := s_swap_told) l10 c10 k10
  have F10 := F010
  have b10 := F010.binds (ps := ["signs", "by", "weights", "long"]) fun _ _ _ _ _ _ us hl => match us, hl with | [_, _, _, _], _ => rfl
  have F011 := fun_mk (st := s__law_common) l11 c11 k11
  have F11 := F011
  have b11 := F011.binds (ps := ["one", "other"]) fun _ _ _ _ _ _ us hl => match us, hl with | [_, _], _ => rfl
  have F012 := fun_mk (st := s_one_told) l12 c12 k12
  have F12 := F012
  have b12 := F012.binds (ps := ["signs", "by", "weights"]) fun _ _ _ _ _ _ us hl => match us, hl with | [_, _, _], _ => rfl
  have F013 := fun_mk (st := s__law_draw) l13 c13 k13
  have F13 := F013
  have b13 := F013.binds (ps := ["hand", "many"]) fun _ _ _ _ _ _ us hl => match us, hl with | [_, _], _ => rfl
  have F014 := fun_mk (st := s__law_weights) l14 c14 k14
  have F14 := F014
  have b14 := F014.binds (ps := ["hand", "by"]) fun _ _ _ _ _ _ us hl => match us, hl with | [_, _], _ => rfl
  have F015 := fun_mk (st := s__law_some) l15 c15 k15
  have F15 := F015
  have b15 := F015.binds (ps := ["hand", "things"]) fun _ _ _ _ _ _ us hl => match us, hl with | [_, _], _ => rfl
  have F016 := fun_mk (st := s__law_is_right) l16 c16 k16
  have F16 := F016
  have b16 := F016.binds (ps := ["hand"]) fun _ _ _ _ _ _ us hl => match us, hl with | [_], _ => rfl
  have F017 := fun_mk (st := s__law_word) l17 c17 k17
  have F17 := F017
  have b17 := F017.binds (ps := ["call"]) fun _ _ _ _ _ _ us hl => match us, hl with | [_], _ => rfl
  have F18 : FunC K "_law_are_refused" "_law_are_refused" s__law_are_refused f18 _ cc18 := ⟨_, _, _, _, _, _, _, _, rfl, l18, c18⟩
  have F018 := fun_mk (st := s__law_are_refused) l18 c18 k18
  have b18 := F018.binds (ps := ["hand"]) fun _ _ _ _ _ _ us hl => match us, hl with | [_], _ => rfl
  have F019 := fun_mk (st := s_law) l19 c19 k19
  have F19 := F019
  have b19 := F019.binds (ps := ["script"]) fun _ _ _ _ _ _ us hl => match us, hl with | [_], _ => rfl
  have FI_CheckError := fun_mk (st := s_init_CheckError) lI_CheckError cI_CheckError kI_CheckError
  have bI_CheckError := FI_CheckError.binds (ps := ["self"]) fun _ _ _ _ _ _ us hl => match us, hl with | [_], _ => rfl
  have o_CheckError : OwnE K C_CheckError g_CheckError := ownE_mk xL_CheckError (by rfl) sa_CheckError ga_CheckError gg_CheckError i1_CheckError kC_CheckError eC_CheckError tC_CheckError hC_CheckError cl_CheckError mO_CheckError hn ht
  have o_NoNumber : OwnE K C_NoNumber g_CheckError := ownE_mk xL_NoNumber (by rfl) sa_NoNumber ga_NoNumber gg_NoNumber i1_NoNumber kC_NoNumber eC_NoNumber tC_NoNumber hC_NoNumber cl_NoNumber mO_NoNumber hn ht
  have o_NoWeights : OwnE K C_NoWeights g_CheckError := ownE_mk xL_NoWeights (by rfl) sa_NoWeights ga_NoWeights gg_NoWeights i1_NoWeights kC_NoWeights eC_NoWeights tC_NoWeights hC_NoWeights cl_NoWeights mO_NoWeights hn ht
  have XE : ErT (pgOf K [(PT18, ("_law_are_refused" : Str) ++ ".<locals>." ++ "<lambda>")] [("NoNumber", C_NoNumber), ("NoWeights", C_NoWeights)]) mg := { cls := errCls_of rfl (List.forall_mem_cons.2 ⟨⟨_, o_NoNumber⟩, (List.forall_mem_cons.2 ⟨⟨_, o_NoWeights⟩, (fun _ h => nomatch h)⟩)⟩), c_CheckError := ⟨C_CheckError, PySem.W.mg_of X hG aC_CheckError, et_all (Pr := fun _ C => PySem.W.exmOne K (.ref C) (.ref C_CheckError) = some true) (List.forall_mem_cons.2 ⟨o_CheckError.exm s_NoNumber_CheckError, (List.forall_mem_cons.2 ⟨o_CheckError.exm s_NoWeights_CheckError, (fun _ h => nomatch h)⟩)⟩)⟩, k_NoNumber := ⟨C_NoNumber, PySem.W.mg_of X hG aC_NoNumber, kitE_of rfl (List.forall_mem_cons.2 ⟨k_NoNumber_NoNumber, (List.forall_mem_cons.2 ⟨k_NoWeights_NoNumber, (fun _ h => nomatch h)⟩)⟩)⟩, k_NoWeights := ⟨C_NoWeights, PySem.W.mg_of X hG aC_NoWeights, kitE_of rfl (List.forall_mem_cons.2 ⟨k_NoNumber_NoWeights, (List.forall_mem_cons.2 ⟨k_NoWeights_NoWeights, (fun _ h => nomatch h)⟩)⟩)⟩, kV := kitE_of rfl (List.forall_mem_cons.2 ⟨kV_NoNumber, (List.forall_mem_cons.2 ⟨kV_NoWeights, (fun _ h => nomatch h)⟩)⟩) }
  have hO : ∀ c C, (pgOf K [(PT18, ("_law_are_refused" : Str) ++ ".<locals>." ++ "<lambda>")] [("NoNumber", C_NoNumber), ("NoWeights", C_NoWeights)]).CT c = some C → ObjCls K C := fun _ _ h => by cases h
  refine ⟨PySem.W.fnOf "law" "law" (defArgs s_law) (defBody s_law) (defScope s_law) .none kV19 dc19 pm19 an19 cd19 ct19, [(cc18, PT18)], lawSp (pgOf K [(PT18, ("_law_are_refused" : Str) ++ ".<locals>." ++ "<lambda>")] [("NoNumber", C_NoNumber), ("NoWeights", C_NoWeights)]), (List.forall_mem_cons.2 ⟨tb18 f18 cc18 PT18 _ _ _ _ _ _ (PySem.W.mg_of X hG a18) l18 rfl rfl lc18 pt18, (fun _ h => nomatch h)⟩), (List.forall_mem_cons.2 ⟨nP18, (fun _ h => nomatch h)⟩), (List.forall_mem_cons.2 ⟨PySem.W.codeHd_of_K X hd18, (fun _ h => nomatch h)⟩), fun s v => .of_eq rfl, fun H a ns hl _ hH hS => ⟨a, ns, rfl, hS, hl, tabs0 (List.forall_mem_cons.2 ⟨⟨cc18, by simp⟩, (fun _ h => nomatch h)⟩) hH, fun _ => rfl⟩, fun base _ _ tb => ?_⟩
  have E_NoNumber : ErC l.prog w (pgOf K [(PT18, ("_law_are_refused" : Str) ++ ".<locals>." ++ "<lambda>")] [("NoNumber", C_NoNumber), ("NoWeights", C_NoWeights)]) mg base "NoNumber" 1 (sp0 K) := OwnE.er (G := (pgOf K [(PT18, ("_law_are_refused" : Str) ++ ".<locals>." ++ "<lambda>")] [("NoNumber", C_NoNumber), ("NoWeights", C_NoWeights)])) o_NoNumber rfl (PySem.W.mg_of X hG aC_NoNumber) tI_CheckError bI_CheckError (ok_init_CheckError (PySem.W.mg_none_of X hG z_ValueError) vV FI_CheckError)
  have E_NoWeights : ErC l.prog w (pgOf K [(PT18, ("_law_are_refused" : Str) ++ ".<locals>." ++ "<lambda>")] [("NoNumber", C_NoNumber), ("NoWeights", C_NoWeights)]) mg base "NoWeights" 1 (sp0 K) := OwnE.er (G := (pgOf K [(PT18, ("_law_are_refused" : Str) ++ ".<locals>." ++ "<lambda>")] [("NoNumber", C_NoNumber), ("NoWeights", C_NoWeights)])) o_NoWeights rfl (PySem.W.mg_of X hG aC_NoWeights) tI_CheckError bI_CheckError (ok_init_CheckError (PySem.W.mg_none_of X hG z_ValueError) vV FI_CheckError)
  have O_1 := ok__law_hand (P := l.prog) (w := w) (G := (pgOf K [(PT18, ("_law_are_refused" : Str) ++ ".<locals>." ++ "<lambda>")] [("NoNumber", C_NoNumber), ("NoWeights", C_NoWeights)])) (base := base) T hO F1 hb_hand
  have C__law_is : Cal l.prog w (pgOf K [(PT18, ("_law_are_refused" : Str) ++ ".<locals>." ++ "<lambda>")] [("NoNumber", C_NoNumber), ("NoWeights", C_NoWeights)]) mg base "_law_is" 4 2 (T__law_is 3) := ⟨f2, _, ["got", "due"], PySem.W.mg_of X hG a2, k2, b2, ok__law_is (P := l.prog) (w := w) (G := (pgOf K [(PT18, ("_law_are_refused" : Str) ++ ".<locals>." ++ "<lambda>")] [("NoNumber", C_NoNumber), ("NoWeights", C_NoWeights)])) (base := base) T hO F2 (PySem.W.mg_of X hG a2) b2 3⟩
  have C__law_least : Cal l.prog w (pgOf K [(PT18, ("_law_are_refused" : Str) ++ ".<locals>." ++ "<lambda>")] [("NoNumber", C_NoNumber), ("NoWeights", C_NoWeights)]) mg base "_law_least" 1 3 T__law_least := ⟨f3, _, ["signs", "by", "row"], PySem.W.mg_of X hG a3, k3, b3, ok__law_least (P := l.prog) (w := w) (G := (pgOf K [(PT18, ("_law_are_refused" : Str) ++ ".<locals>." ++ "<lambda>")] [("NoNumber", C_NoNumber), ("NoWeights", C_NoWeights)])) (base := base) T hO F3⟩
  have C_is_unseen : Cal l.prog w (pgOf K [(PT18, ("_law_are_refused" : Str) ++ ".<locals>." ++ "<lambda>")] [("NoNumber", C_NoNumber), ("NoWeights", C_NoWeights)]) mg base "is_unseen" 1 2 T_is_unseen := ⟨f4, _, ["by", "number"], PySem.W.mg_of X hG a4, k4, b4, ok_is_unseen (P := l.prog) (w := w) (G := (pgOf K [(PT18, ("_law_are_refused" : Str) ++ ".<locals>." ++ "<lambda>")] [("NoNumber", C_NoNumber), ("NoWeights", C_NoWeights)])) (base := base) T hO F4⟩
  have C_is_integer : Cal l.prog w (pgOf K [(PT18, ("_law_are_refused" : Str) ++ ".<locals>." ++ "<lambda>")] [("NoNumber", C_NoNumber), ("NoWeights", C_NoWeights)]) mg base "is_integer" 1 1 T_is_integer := ⟨f5, _, ["thing"], PySem.W.mg_of X hG a5, k5, b5, ok_is_integer (P := l.prog) (w := w) (G := (pgOf K [(PT18, ("_law_are_refused" : Str) ++ ".<locals>." ++ "<lambda>")] [("NoNumber", C_NoNumber), ("NoWeights", C_NoWeights)])) (base := base) T hO F5⟩
  have C_is_within : Cal l.prog w (pgOf K [(PT18, ("_law_are_refused" : Str) ++ ".<locals>." ++ "<lambda>")] [("NoNumber", C_NoNumber), ("NoWeights", C_NoWeights)]) mg base "is_within" 2 3 T_is_within := ⟨f6, _, ["thing", "least", "most"], PySem.W.mg_of X hG a6, k6, b6, ok_is_within (P := l.prog) (w := w) (G := (pgOf K [(PT18, ("_law_are_refused" : Str) ++ ".<locals>." ++ "<lambda>")] [("NoNumber", C_NoNumber), ("NoWeights", C_NoWeights)])) (base := base) T hO C_is_integer F6⟩
  have C_check_number : Cal l.prog w (pgOf K [(PT18, ("_law_are_refused" : Str) ++ ".<locals>." ++ "<lambda>")] [("NoNumber", C_NoNumber), ("NoWeights", C_NoWeights)]) mg base "check_number" 3 3 T_check_number := ⟨f7, _, ["thing", "least", "most"], PySem.W.mg_of X hG a7, k7, b7, ok_check_number (P := l.prog) (w := w) (G := (pgOf K [(PT18, ("_law_are_refused" : Str) ++ ".<locals>." ++ "<lambda>")] [("NoNumber", C_NoNumber), ("NoWeights", C_NoWeights)])) (base := base) T hO E_NoNumber C_is_within F7⟩
  have C_is_sized : Cal l.prog w (pgOf K [(PT18, ("_law_are_refused" : Str) ++ ".<locals>." ++ "<lambda>")] [("NoNumber", C_NoNumber), ("NoWeights", C_NoWeights)]) mg base "is_sized" 1 3 T_is_sized := ⟨f8, _, ["thing", "least", "most"], PySem.W.mg_of X hG a8, k8, b8, ok_is_sized (P := l.prog) (w := w) (G := (pgOf K [(PT18, ("_law_are_refused" : Str) ++ ".<locals>." ++ "<lambda>")] [("NoNumber", C_NoNumber), ("NoWeights", C_NoWeights)])) (base := base) T hO F8⟩
  have C_check_weights : Cal l.prog w (pgOf K [(PT18, ("_law_are_refused" : Str) ++ ".<locals>." ++ "<lambda>")] [("NoNumber", C_NoNumber), ("NoWeights", C_NoWeights)]) mg base "check_weights" 4 3 T_check_weights := ⟨f9, _, ["signs", "by", "thing"], PySem.W.mg_of X hG a9, k9, b9, ok_check_weights (P := l.prog) (w := w) (G := (pgOf K [(PT18, ("_law_are_refused" : Str) ++ ".<locals>." ++ "<lambda>")] [("NoNumber", C_NoNumber), ("NoWeights", C_NoWeights)])) (base := base) T hO E_NoWeights C_is_sized C_is_within C_check_number F9⟩
  have C_swap_told : Cal l.prog w (pgOf K [(PT18, ("_law_are_refused" : Str) ++ ".<locals>." ++ "<lambda>")] [("NoNumber", C_NoNumber), ("NoWeights", C_NoWeights)]) mg base "swap_told" 5 4 T_swap_told := ⟨f10, _, ["signs", "by", "weights", "long"], PySem.W.mg_of X hG a10, k10, b10, ok_swap_told (P := l.prog) (w := w) (G := (pgOf K [(PT18, ("_law_are_refused" : Str) ++ ".<locals>." ++ "<lambda>")] [("NoNumber", C_NoNumber), ("NoWeights", C_NoWeights)])) (base := base) T hO C_is_unseen C_check_number C_check_weights F10⟩
  have C__law_common : Cal l.prog w (pgOf K [(PT18, ("_law_are_refused" : Str) ++ ".<locals>." ++ "<lambda>")] [("NoNumber", C_NoNumber), ("NoWeights", C_NoWeights)]) mg base "_law_common" 1 2 T__law_common := ⟨f11, _, ["one", "other"], PySem.W.mg_of X hG a11, k11, b11, ok__law_common (P := l.prog) (w := w) (G := (pgOf K [(PT18, ("_law_are_refused" : Str) ++ ".<locals>." ++ "<lambda>")] [("NoNumber", C_NoNumber), ("NoWeights", C_NoWeights)])) (base := base) T hO F11⟩
  have C_one_told : Cal l.prog w (pgOf K [(PT18, ("_law_are_refused" : Str) ++ ".<locals>." ++ "<lambda>")] [("NoNumber", C_NoNumber), ("NoWeights", C_NoWeights)]) mg base "one_told" 5 3 T_one_told := ⟨f12, _, ["signs", "by", "weights"], PySem.W.mg_of X hG a12, k12, b12, ok_one_told (P := l.prog) (w := w) (G := (pgOf K [(PT18, ("_law_are_refused" : Str) ++ ".<locals>." ++ "<lambda>")] [("NoNumber", C_NoNumber), ("NoWeights", C_NoWeights)])) (base := base) T hO C_is_unseen C_check_weights F12⟩
  have C__law_draw : Cal l.prog w (pgOf K [(PT18, ("_law_are_refused" : Str) ++ ".<locals>." ++ "<lambda>")] [("NoNumber", C_NoNumber), ("NoWeights", C_NoWeights)]) mg base "_law_draw" 1 2 wDraw := ⟨f13, _, ["hand", "many"], PySem.W.mg_of X hG a13, k13, b13, ok__law_draw (P := l.prog) (w := w) (G := (pgOf K [(PT18, ("_law_are_refused" : Str) ++ ".<locals>." ++ "<lambda>")] [("NoNumber", C_NoNumber), ("NoWeights", C_NoWeights)])) (base := base) T hO F13 hb_draw⟩
  have C__law_weights : Cal l.prog w (pgOf K [(PT18, ("_law_are_refused" : Str) ++ ".<locals>." ++ "<lambda>")] [("NoNumber", C_NoNumber), ("NoWeights", C_NoWeights)]) mg base "_law_weights" 2 2 T__law_weights := ⟨f14, _, ["hand", "by"], PySem.W.mg_of X hG a14, k14, b14, ok__law_weights (P := l.prog) (w := w) (G := (pgOf K [(PT18, ("_law_are_refused" : Str) ++ ".<locals>." ++ "<lambda>")] [("NoNumber", C_NoNumber), ("NoWeights", C_NoWeights)])) (base := base) T hO C__law_draw F14⟩
  have C__law_some : Cal l.prog w (pgOf K [(PT18, ("_law_are_refused" : Str) ++ ".<locals>." ++ "<lambda>")] [("NoNumber", C_NoNumber), ("NoWeights", C_NoWeights)]) mg base "_law_some" 2 2 T__law_some := ⟨f15, _, ["hand", "things"], PySem.W.mg_of X hG a15, k15, b15, ok__law_some (P := l.prog) (w := w) (G := (pgOf K [(PT18, ("_law_are_refused" : Str) ++ ".<locals>." ++ "<lambda>")] [("NoNumber", C_NoNumber), ("NoWeights", C_NoWeights)])) (base := base) T hO C__law_draw F15⟩
  have C__law_is_right : Cal l.prog w (pgOf K [(PT18, ("_law_are_refused" : Str) ++ ".<locals>." ++ "<lambda>")] [("NoNumber", C_NoNumber), ("NoWeights", C_NoWeights)]) mg base "_law_is_right" 6 1 T__law_is_right := ⟨f16, _, ["hand"], PySem.W.mg_of X hG a16, k16, b16, ok__law_is_right (P := l.prog) (w := w) (G := (pgOf K [(PT18, ("_law_are_refused" : Str) ++ ".<locals>." ++ "<lambda>")] [("NoNumber", C_NoNumber), ("NoWeights", C_NoWeights)])) (base := base) T hO C__law_is C__law_least C_swap_told C__law_common C_one_told C__law_weights C__law_draw C__law_some F16⟩
  have L__law_word : LamF l.prog w (pgOf K [(PT18, ("_law_are_refused" : Str) ++ ".<locals>." ++ "<lambda>")] [("NoNumber", C_NoNumber), ("NoWeights", C_NoWeights)]) mg base "_law_word" F__law_word := lam__law_word (P := l.prog) (w := w) (G := (pgOf K [(PT18, ("_law_are_refused" : Str) ++ ".<locals>." ++ "<lambda>")] [("NoNumber", C_NoNumber), ("NoWeights", C_NoWeights)])) (base := base) T hO XE F17 (PySem.W.mg_of X hG a17) b17
  have C__law_are_refused : Cal l.prog w (pgOf K [(PT18, ("_law_are_refused" : Str) ++ ".<locals>." ++ "<lambda>")] [("NoNumber", C_NoNumber), ("NoWeights", C_NoWeights)]) mg base "_law_are_refused" 8 1 T__law_are_refused := ⟨f18, _, ["hand"], PySem.W.mg_of X hG a18, k18, b18, ok__law_are_refused (P := l.prog) (w := w) (G := (pgOf K [(PT18, ("_law_are_refused" : Str) ++ ".<locals>." ++ "<lambda>")] [("NoNumber", C_NoNumber), ("NoWeights", C_NoWeights)])) (base := base) T hO XE L__law_word C_swap_told C__law_some C_one_told (tb (cc18, PT18) (.head _)) (.head _) ((List.forall_mem_cons.2 ⟨fun _ => rfl, (fun _ h => nomatch h)⟩)) F18⟩
  exact ok_law (P := l.prog) (w := w) (G := (pgOf K [(PT18, ("_law_are_refused" : Str) ++ ".<locals>." ++ "<lambda>")] [("NoNumber", C_NoNumber), ("NoWeights", C_NoWeights)])) (base := base) T hO C__law_is_right C__law_are_refused C__law_is C_swap_told C_one_told O_1 (PySem.W.mg_of X hG a1) k1 b1 F19 hb_law
end Law
open PySem PySem.W PyProof.Rows
set_option maxRecDepth 100000 in
set_option maxHeartbeats 0 in
theorem PySem.Challenge.cw_checksigns_k16_whole_one_and_swap_told_holds : PySem.Challenge.rw_checksigns_k16_whole_one_and_swap_told.Holds := by
  w_on; o_law; k_head; (case hw => w_witness2)
  k_fill
  refine DV.walk_tabs (CX := fun w => L2.CX PySem.Challenge.pw_checksigns_k16_whole_one_and_swap_told w) (l := PySem.Challenge.rw_checksigns_k16_whole_one_and_swap_told) (k := 9) (x := "script") rfl (by decide +kernel) rfl ⟨rfl, by decide, by decide⟩ (fun w h Y => PySem.W.km_in_of Y) ?F ?G
  case G =>
    intro _ _ _ _ _ z
    obtain ⟨_, _, _, _, _, _, _, _, _, _, _, _, z⟩ := z
    exact z.elim
  case F =>
    intro w mg fa h Y KX G hmg tabs
    refine' Law.all_mk KX G hmg (tabs _ (by decide +kernel)) ?a1 ?l1 ?c1 ?k1 ?a2 ?l2 ?c2 ?k2 ?a3 ?l3 ?c3 ?k3 ?a4 ?l4 ?c4 ?k4 ?a5 ?l5 ?c5 ?k5 ?a6 ?l6 ?c6 ?k6 ?a7 ?l7 ?c7 ?k7 ?a8 ?l8 ?c8 ?k8 ?a9 ?l9 ?c9 ?k9 ?a10 ?l10 ?c10 ?k10 ?a11 ?l11 ?c11 ?k11 ?a12 ?l12 ?c12 ?k12 ?a13 ?l13 ?c13 ?k13 ?a14 ?l14 ?c14 ?k14 ?a15 ?l15 ?c15 ?k15 ?a16 ?l16 ?c16 ?k16 ?a17 ?l17 ?c17 ?k17 ?a18 ?l18 ?c18 ?k18 ?lc18 ?pt18 ?hd18 ?gP18 ?nP18 ?a19 ?l19 ?c19 ?k19 ?z_ValueError ?z_abs ?z_all ?z_bool ?z_enumerate ?z_int ?z_isinstance ?z_len ?z_list ?z_range ?z_str ?z_sum ?z_tuple ?z_zip ?q_MOST_BY ?q_MOST_LONG ?aC_CheckError ?aC_NoNumber ?aC_NoWeights ?xL_CheckError ?sa_CheckError ?ga_CheckError ?gg_CheckError ?i1_CheckError ?kC_CheckError ?eC_CheckError ?tC_CheckError ?hC_CheckError ?cl_CheckError ?mO_CheckError ?xL_NoNumber ?sa_NoNumber ?ga_NoNumber ?gg_NoNumber ?i1_NoNumber ?kC_NoNumber ?eC_NoNumber ?tC_NoNumber ?hC_NoNumber ?cl_NoNumber ?mO_NoNumber ?xL_NoWeights ?sa_NoWeights ?ga_NoWeights ?gg_NoWeights ?i1_NoWeights ?kC_NoWeights ?eC_NoWeights ?tC_NoWeights ?hC_NoWeights ?cl_NoWeights ?mO_NoWeights ?lI_CheckError ?cI_CheckError ?kI_CheckError ?tI_CheckError ?hn ?ht ?vV ?s_NoNumber_CheckError ?k_NoNumber_NoNumber ?k_NoNumber_NoWeights ?kV_NoNumber ?s_NoWeights_CheckError ?k_NoWeights_NoNumber ?k_NoWeights_NoWeights ?kV_NoWeights
    (case a1 => k_is)
    (case l1 => k_is)
    (case c1 => k_is)
    (case k1 => k_is)
    (case a2 => k_is)
    (case l2 => k_is)
    (case c2 => k_is)
    (case k2 => k_is)
    (case a3 => k_is)
    (case l3 => k_is)
    (case c3 => k_is)
    (case k3 => k_is)
    (case a4 => k_is)
    (case l4 => k_is)
    (case c4 => k_is)
    (case k4 => k_is)
    (case a5 => k_is)
    (case l5 => k_is)
    (case c5 => k_is)
    (case k5 => k_is)
    (case a6 => k_is)
    (case l6 => k_is)
    (case c6 => k_is)
    (case k6 => k_is)
    (case a7 => k_is)
    (case l7 => k_is)
    (case c7 => k_is)
    (case k7 => k_is)
    (case a8 => k_is)
    (case l8 => k_is)
    (case c8 => k_is)
    (case k8 => k_is)
    (case a9 => k_is)
    (case l9 => k_is)
    (case c9 => k_is)
    (case k9 => k_is)
    (case a10 => k_is)
    (case l10 => k_is)
    (case c10 => k_is)
    (case k10 => k_is)
    (case a11 => k_is)
    (case l11 => k_is)
    (case c11 => k_is)
    (case k11 => k_is)
    (case a12 => k_is)
    (case l12 => k_is)
    (case c12 => k_is)
    (case k12 => k_is)
    (case a13 => k_is)
    (case l13 => k_is)
    (case c13 => k_is)
    (case k13 => k_is)
    (case a14 => k_is)
    (case l14 => k_is)
    (case c14 => k_is)
    (case k14 => k_is)
    (case a15 => k_is)
    (case l15 => k_is)
    (case c15 => k_is)
    (case k15 => k_is)
    (case a16 => k_is)
    (case l16 => k_is)
    (case c16 => k_is)
    (case k16 => k_is)
    (case a17 => k_is)
    (case l17 => k_is)
    (case c17 => k_is)
    (case k17 => k_is)
    (case a18 => k_is)
    (case l18 => k_is)
    (case c18 => k_is)
    (case k18 => k_is)
    (case lc18 => k_is)
    (case pt18 => first | rfl | k_is)
    (case hd18 => first | rfl | decide +kernel)
    (case gP18 => decide)
    (case nP18 => first | rfl | decide +kernel)
    (case a19 => k_is)
    (case l19 => k_is)
    (case c19 => k_is)
    (case k19 => k_is)
    (case z_ValueError => k_is)
    (case z_abs => k_is)
    (case z_all => k_is)
    (case z_bool => k_is)
    (case z_enumerate => k_is)
    (case z_int => k_is)
    (case z_isinstance => k_is)
    (case z_len => k_is)
    (case z_list => k_is)
    (case z_range => k_is)
    (case z_str => k_is)
    (case z_sum => k_is)
    (case z_tuple => k_is)
    (case z_zip => k_is)
    (case q_MOST_BY => k_is)
    (case q_MOST_LONG => k_is)
    (case aC_CheckError => k_is)
    (case aC_NoNumber => k_is)
    (case aC_NoWeights => k_is)
    (case xL_CheckError => k_is)
    (case sa_CheckError => k_is)
    (case ga_CheckError => k_is)
    (case gg_CheckError => k_is)
    (case i1_CheckError => k_is)
    (case kC_CheckError => k_is)
    (case eC_CheckError => k_is)
    (case tC_CheckError => k_is)
    (case hC_CheckError => k_is)
    (case cl_CheckError => k_is)
    (case mO_CheckError => k_is)
    (case xL_NoNumber => k_is)
    (case sa_NoNumber => k_is)
    (case ga_NoNumber => k_is)
    (case gg_NoNumber => k_is)
    (case i1_NoNumber => k_is)
    (case kC_NoNumber => k_is)
    (case eC_NoNumber => k_is)
    (case tC_NoNumber => k_is)
    (case hC_NoNumber => k_is)
    (case cl_NoNumber => k_is)
    (case mO_NoNumber => k_is)
    (case xL_NoWeights => k_is)
    (case sa_NoWeights => k_is)
    (case ga_NoWeights => k_is)
    (case gg_NoWeights => k_is)
    (case i1_NoWeights => k_is)
    (case kC_NoWeights => k_is)
    (case eC_NoWeights => k_is)
    (case tC_NoWeights => k_is)
    (case hC_NoWeights => k_is)
    (case cl_NoWeights => k_is)
    (case mO_NoWeights => k_is)
    (case lI_CheckError => k_is)
    (case cI_CheckError => k_is)
    (case kI_CheckError => k_is)
    (case tI_CheckError => k_is)
    (case hn => k_is)
    (case ht => k_is)
    (case vV => k_is)
    (case s_NoNumber_CheckError => first | rfl | k_is)
    (case k_NoNumber_NoNumber => show _ = some true; first | kit_is | k_is)
    (case k_NoNumber_NoWeights => show _ = some false; first | kit_is | k_is)
    (case kV_NoNumber => first | kit_is | k_is)
    (case s_NoWeights_CheckError => first | rfl | k_is)
    (case k_NoWeights_NoNumber => show _ = some false; first | kit_is | k_is)
    (case k_NoWeights_NoWeights => show _ = some true; first | kit_is | k_is)
    (case kV_NoWeights => first | kit_is | k_is)

