import PyProof.Rows.All
import Wide.All
import OpenK.AllK
import Wide.FinOn
import HandS.Iter
import HandS.Walk
import KE.GoesMore
import HandS.ForMost
import HandS.Exc
import HandS.WordsExc
import HandS.TryOnly
import HandS.ExcOwn
import HandS.ExcInit
import HandS.IsInst
import HandS.Lambda
import HandS.TupAny
import HandS.TupLe
import HandS.TupMul
import HandS.Deep
import HandS.Wide
import HandS.Conv
import HandS.Zip
import HandS.Style
import HandS.ExcIs
import HandS.ExcField
import KE.KExcIs
import HandS.ClsMeth
import HandS.EndTab
import HandS.SortInts
import HandS.TupSets
import KE.KRevSl
import PyProof.ReprRoads
import KE.KDflt
import HandS.More
import KE.DatumOrd
import HandS.SetFor
import KE.SortData
import PySem.Challenge.RW_checksigns_k05_whole_words_read_by_schem
set_option Elab.async false
set_option linter.all false
set_option maxRecDepth 100000
/-! DVE: enumerate of a list or of a tuple. -/
namespace DV
open PySem PySem.Spec PyProof.Rows L2
open AutoSeq1 (wpAny_loadPart')
theorem meets_enumT (l : Addr) (items : Array Value) (n : Nat) (dct : Option Addr) (sl : Array (Option Value)) :
    Meets (Builtin.«enumerate.__new__» ⟨[.type "enumerate", .ref l], []⟩) (fun _ R s => s.heap.get? l = some { cls := .type "tuple", dict := dct, data := .seq items n, slots := sl } ∧
      R (.ok (.ret (.ref (s.heap.push { cls := .type "tuple_iterator", data := .fields #[.ref l, .int 0 0] }).objs.size)))
        { s with heap := (s.heap.push { cls := .type "tuple_iterator", data := .fields #[.ref l, .int 0 0] }).push { cls := .type "enumerate", data := .fields #[.none, .bool false, .ref s.heap.objs.size, rawInt 0, .none, .none] } }) :=
  .of_wp fun prog w A R s h => by
    obtain ⟨hp, g, d, tk, os⟩ := s; obtain ⟨hl, h⟩ := h
    have hsub := sub_enumerate
    have hL : Heap.IsTuple (Shared.heap ⟨hp, g, d, tk, os⟩) l items := ⟨_, hl, rfl, n, rfl⟩
    wp_walk using wpAny_loadPart' hl
    refine wpAny_stack_any fun st => wpAny_pure ?_
    split
    · rename_i c _ _ _ _ _
      cases (c == Value.type "enumerate")
      · wp_walk using wpAny_loadPart' hl, wpAny_pyIter_tuple hL
        exact ⟨_, rfl, h⟩
      · wp_walk using wpAny_loadPart' hl, wpAny_pyIter_tuple hL
        exact ⟨_, rfl, h⟩
    · wp_walk using wpAny_loadPart' hl, wpAny_pyIter_tuple hL
      exact ⟨_, rfl, h⟩
theorem call_enumT {prog : Program} {w : World} {A : Around} {E : Value → Shared → Prop} {s : Shared} {l : Addr} {items : Array Value} {Q : Value → Shared → Prop} (hL : s.heap.IsTuple l items)
    (h : ∀ h', IsEnum h' (s.heap.objs.size + 1) s.heap.objs.size 0 .none → h'.IsTupleIter s.heap.objs.size l 0 → h'.objs.size = s.heap.objs.size + 2 →
      (∀ b o, s.heap.get? b = some o → h'.get? b = some o) → Q (.ref (s.heap.objs.size + 1)) { s with heap := h' }) :
    wpAny (model prog w) A (call (.type "enumerate") [.ref l]) Q E s := by
  obtain ⟨⟨c, dct, dt, sl⟩, hl, hc, n, hd⟩ := hL
  replace hc : c = .type "tuple" := hc
  replace hd : dt = .seq items n := hd
  subst hc hd
  refine callType_new F.called_enumerate (by decide) (F.typeCall_enumerate_1 _) (F.newCall_enumerate_1 _) (fun obj => F.args_object_init_2 obj _) F.entry_enumerate_new
    (meets_enumT l items n dct sl) ⟨hl, ?_⟩
  have hz : (s.heap.push { cls := .type "tuple_iterator", data := .fields #[.ref l, .int 0 0] }).objs.size = s.heap.objs.size + 1 := Heap.size_push ..
  show _ ∧ _
  rw [hz]
  have he : IsEnum ((s.heap.push { cls := .type "tuple_iterator", data := .fields #[.ref l, .int 0 0] }).push
      { cls := .type "enumerate", data := .fields #[.none, .bool false, .ref s.heap.objs.size, rawInt 0, .none, .none] }) (s.heap.objs.size + 1) s.heap.objs.size 0 .none := by
    have := Heap.get?_push_size (s.heap.push { cls := .type "tuple_iterator", data := .fields #[.ref l, .int 0 0] })
      (o := { cls := .type "enumerate", data := .fields #[.none, .bool false, .ref s.heap.objs.size, rawInt 0, .none, .none] }) rfl
    rw [hz] at this; exact this
  refine ⟨⟨_, he, rfl⟩, h _ he ⟨_, Heap.get?_push_of_some _ (Heap.get?_push_size _ rfl), rfl, rfl⟩ (by rw [Heap.size_push, hz]) fun b o x => Heap.get?_push_of_some _ (Heap.get?_push_of_some _ x)⟩
/-- the tuple at a, each item in a new pair -/
def IteT (K : PySem.W.Frag) (a : Addr) : It :=
  ⟨fun i H => ∃ (xs : List V) (x : V), SqT K H a xs ∧ xs[i]? = some x, fun i H v H' => ∃ T x, v = .ref T ∧ H T = none ∧ H' = upd H T (.tup [.int (i : Nat), x]) ∧ ∀ xs, SqT K H a xs → xs[i]? = some x, fun i H => ∃ xs : List V, SqT K H a xs ∧ xs.length = i⟩
theorem turn_enumT {P : Program} {w : World} {K : PySem.W.Frag} {elts : List Expr} {kk : Nat} {tpos : Pos} (a e it : Addr) :
    Turn P w K (.Tuple elts kk tpos) (IteT K a) [e, it] e (fun i h => (∃ old, IsEnum h e it ((i : Nat) : Int) old) ∧ h.IsTupleIter it a i ∧ e ≠ it ∧ a ≠ it ∧ e ≠ a) where
  mem := by simp
  obj := fun i h st b hb => by
    obtain ⟨⟨old, he⟩, ⟨o, ho, hc, hd⟩, _⟩ := st
    have e' : b = e ∨ b = it := by simpa using hb
    rcases e' with z | z
    · rw [z]; exact ⟨_, he, fun v q => nomatch q⟩
    · rw [z]; exact ⟨o, ho, fun v q => by rw [hd] at q; cases q⟩
  keep := fun i h h' st k => let ⟨⟨old, he⟩, hi, hne⟩ := st; ⟨⟨old, k e (by simp) _ he⟩, hi.at fun o q => k it (by simp) o q, hne⟩
  item := by
    intro X hP hw hK hc i pins s σ H E I hf st hg
    subst hP hw hK
    obtain ⟨⟨old, he⟩, hit, hne, hai, hea⟩ := st
    obtain ⟨xs, x, hq, hx⟩ := hg
    obtain ⟨its, rv, p, hz⟩ := I.tuple hq
    obtain ⟨u, hu, ru⟩ := rv.get hx
    have hel : e < s.heap.objs.size := Heap.lt_size he
    have hil : it < s.heap.objs.size := by obtain ⟨_, q, _⟩ := hit; exact Heap.lt_size q
    have hlt : i < its.toArray.size := by
      have := (List.getElem?_eq_some_iff.mp hu).1
      simpa using this
    refine wpAny_pyNext_enum_itemD (Draws.tuple (A := X.A.in1) (I.ok.hd hc) it a hai its.toArray) he ⟨hit, p⟩ hlt hne (by simp [hne, hea]) fun u' h' tk hu' ho hst' hT hsz hk => ?_
    have eu : u' = u := by
      have h1 : its[i]? = some u' := by simpa using hu'
      rw [hu] at h1; cases h1; rfl
    subst eu
    refine ⟨_, rfl, wpAny_letOwnedTupleGo_enum (s := { s with heap := h', toks := tk + 1 }) ho fun h'' he' sb => ?_⟩
    have hT2 : h''.get? s.heap.objs.size = some { cls := .type "tuple", data := .seq #[.int i tk, u'] } := (sb.2 _ (Nat.ne_of_gt hel)).trans hT
    have new : ObjOk X.prog X.w (upd H s.heap.objs.size (.tup [.int (i : Nat), x])) h'' s.heap.objs.size (.tup [.int (i : Nat), x]) :=
      ⟨by show 2 ≤ sizeLine; decide, [.int i tk, u'], .cons ⟨_, rfl⟩ (.cons ru .nil), ⟨_, hT2, rfl, _, rfl⟩⟩
    have I1 : Inv X pins σ (upd H s.heap.objs.size (.tup [.int (i : Nat), x])) { s with heap := h'', toks := tk + 1 } :=
      I.turnedNew (ch := [e, it]) (fun b ob hb q => (sb.2 b (fun z => hb (by simp [z]))).trans (hk b ob (fun z => hb (by simp [z])) (fun z => hb (by simp [z])) q)) hf (Nat.le_refl _) new
    refine ⟨.ref s.heap.objs.size, _, I1, rfl, ⟨_, x, rfl, I.hok.fresh (Nat.le_refl _), rfl, fun ys hy => by rw [I.tuple_inj hy hq]; exact hx⟩, ⟨⟨u', ?_⟩, hst'.1.at fun o q => (sb.2 it (Ne.symm hne)).trans q, hne, hai, hea⟩, fun b hb => ?_⟩
    · have e1 : ((i + 1 : Nat) : Int) = (i : Int) + 1 := by omega
      rw [e1]; exact he'
    · have hb' : b < s.heap.objs.size := by
        have e' : b = e ∨ b = it := by simpa using hb
        rcases e' with z | z
        · rw [z]; exact hel
        · rw [z]; exact hil
      rw [upd_ne (Nat.ne_of_lt hb')]
      exact (hf b hb).1
  done := by
    intro X hP hw hK hc i pins s σ H E I hf st hg
    subst hP hw hK
    obtain ⟨⟨old, he⟩, hit, hne, hai, hea⟩ := st
    obtain ⟨xs, hq, hx⟩ := hg
    obtain ⟨its, rv, p, hz⟩ := I.tuple hq
    obtain ⟨f0, f1, f2, f3, f4, f5⟩ := hf it (by simp)
    have hl := rv.length
    have hn : i = its.toArray.size := by simp; omega
    subst hn
    exact wpAny_pyNext_enum_endD (Draws.tuple (A := X.A.in1) (I.ok.hd hc) it a hai its.toArray) he ⟨hit, p⟩ fun h' eb => ⟨rfl, I.turned (t' := s.toks) (fun b o hb q => eb b o hb q) f0 f1 f3 f4 f5⟩
  self := fun A i s Q E st h => let ⟨⟨_, he⟩, _⟩ := st; wpAny_pyIter_enum he h
def iEnumA (K : PySem.W.Frag) (ta : TA) : TI := fun σ H R => ta σ H fun vs H1 => ∃ a xs, vs = [.ref a] ∧ ((SqL K H1 a xs ∧ R (Ite K a) H1) ∨ (SqT K H1 a xs ∧ R (IteT K a) H1))
theorem pi_enumA {X : Cx} {e : Expr} {ta : TA} {p pos tpos : Pos} {elts : List Expr} {kk : Nat} (hg : Gl X "enumerate") (hm : X.mg "enumerate" = none) (ha : PA X [e] ta) (hs : starEach [e] X.env = [(false, eval e X.env)] := by rfl) :
    PI X (.Tuple elts kk tpos) (.Call (.Name "enumerate" p) [e] [] pos) (iEnumA X.K ta) := by
  refine ⟨fun pins s σ H R I h => ?_⟩
  refine Call_ (ld_blt I hg hm boot_enumerate (PyProof.Rows.callWith_type1 (thn (ha.run pos pins s σ H _ I h) fun us s1 ⟨vs, H1, I1, r1, q1⟩ => ?_) hs rfl))
  obtain ⟨a, xs, ex, q1⟩ := q1
  subst ex
  cases r1 with
  | cons r rr =>
    cases rr
    cases r
    have fresh2 : ∀ b, b ∈ [s1.heap.objs.size + 1, s1.heap.objs.size] → FpOk X pins H1 b := fun b hb => by
      have e' : b = s1.heap.objs.size + 1 ∨ b = s1.heap.objs.size := by simpa using hb
      have hle : s1.heap.objs.size ≤ b := by
        rcases e' with z | z
        · rw [z]; exact Nat.le_add_right _ _
        · rw [z]; exact Nat.le_refl _
      exact I1.fpOk hle (I1.hok.fresh hle)
    rcases q1 with ⟨hq, q⟩ | ⟨hq, q⟩
    · obtain ⟨its, rv, p', hz⟩ := I1.list hq
      refine call_enumerate_list p'.isList fun h' he hit hsz hk => wpAny_pyIter_enum he ?_
      have I2 : Inv X pins σ H1 { s1 with heap := h' } := I1.kept (t' := s1.toks) hk
      exact ⟨s1.heap.objs.size + 1, [s1.heap.objs.size + 1, s1.heap.objs.size], _, _, H1, rfl, I2, turn_enum a (s1.heap.objs.size + 1) s1.heap.objs.size, ⟨⟨.none, he⟩, hit, Nat.succ_ne_self _⟩, fresh2, q⟩
    · obtain ⟨its, rv, p', hz⟩ := I1.tuple hq
      obtain ⟨o1, ho1, _⟩ := id p'
      have hla : a < s1.heap.objs.size := Heap.lt_size ho1
      refine call_enumT (show s1.heap.IsTuple a its.toArray from p') fun h' he hit hsz hk => wpAny_pyIter_enum he ?_
      have I2 : Inv X pins σ H1 { s1 with heap := h' } := I1.kept (t' := s1.toks) hk
      exact ⟨s1.heap.objs.size + 1, [s1.heap.objs.size + 1, s1.heap.objs.size], _, _, H1, rfl, I2, turn_enumT a (s1.heap.objs.size + 1) s1.heap.objs.size, ⟨⟨.none, he⟩, hit, Nat.succ_ne_self _, Nat.ne_of_lt hla, Nat.ne_of_gt (Nat.lt_succ_of_lt hla)⟩, fresh2, q⟩
variable {K : PySem.W.Frag} {a : Addr} {xs : List V}
theorem walk_enumT : Walk (IteT K a) xs.length (fun H => SqT K H a xs) (YPair (fun i => some (.int (i : Nat))) (fun i => xs[i]?)) := by
  refine ⟨fun i _ hi q => ⟨xs, xs[i], q, by simp [hi]⟩, fun _ q => ⟨xs, q, rfl⟩, fun i H v H' _ q y => ?_⟩
  obtain ⟨T, x, h1, h2, h3, h4⟩ := y
  exact ⟨T, .int (i : Nat), x, h1, h2, h3, rfl, h4 xs q⟩
end DV

set_option Elab.async false
set_option linter.all false
set_option maxRecDepth 100000
/-! DV1: plain data D, what of the heap stands for it (Rep), the relation of slots and heap to plain slots (Rel). -/
namespace DV
open PySem PySem.Spec PyProof.Rows L2

/-- plain data -/
inductive D where
  | non | bl (b : Bool) | int (i : Int) | str (s : Str)
  | tup (xs : List D) | lst (xs : List D) | dct (kvs : List (D × D))
  | obj (c : Str) (fs : List (Str × D))
  | frz (xs : List D)
  | fn (x : Str)
  | hand
/-- a slot: nothing known, a value that no statement changes any more, a list (a dict) of the def's own that statements may change -/
inductive Sl where
  | no | val (d : D) | own (a : Addr) (xs : List D) | ownd (a : Addr) (kvs : List (D × D))
  | pin (a : Addr) (dd : Option Addr) (fs : List (Str × D))
abbrev Env := List Sl
/-- an error: its class, its fields -/
abbrev Er := Str × List (Str × D)
/-- what is fixed of the program: the written part, the classes' places -/
structure Pg where
  K : PySem.W.Frag
  CT : Str → Option Addr
  T : List (Addr × Str) := []
  ET : Str → Option Addr := fun _ => none
  FT : Str → Option Addr := fun _ => none
/-- the state's part that only the proof sees: addresses hidden (own lists, the hand), the hand -/
structure Zs where
  O : List Addr
  h : Option Addr
  B : List Addr := []
/-- no table of code objects -/
def NT (o : HO) : Prop := ∀ ps, o ≠ .tbl ps
/-- what stood there stands there, but for a table, which may have grown -/
def Ex1 (H : Hp) (b : Addr) (o : HO) : Prop := ∃ o', H b = some o' ∧ (NT o → o' = o)
theorem Ex1.of {H : Hp} {b : Addr} {o : HO} (e : H b = some o) : Ex1 H b o := ⟨o, e, fun _ => rfl⟩
theorem Ex1.ne {H : Hp} {b : Addr} {o : HO} (e : Ex1 H b o) : H b ≠ none := by
  obtain ⟨o', q, _⟩ := e
  rw [q]; simp
theorem Ex1.get {H : Hp} {b : Addr} {o : HO} (e : Ex1 H b o) (n : NT o) : H b = some o := by
  obtain ⟨o', q, r⟩ := e
  rw [q, r n]
theorem Ex1.lst {H : Hp} {b : Addr} {xs : List V} (e : Ex1 H b (.lst xs)) : H b = some (.lst xs) := e.get fun _ z => by cases z
theorem Ex1.dK {H : Hp} {b : Addr} {xs : List (Key × V)} (e : Ex1 H b (.dK xs)) : H b = some (.dK xs) := e.get fun _ z => by cases z
theorem Ex1.dT {H : Hp} {b : Addr} {xs : List (List Key × V)} (e : Ex1 H b (.dT xs)) : H b = some (.dT xs) := e.get fun _ z => by cases z
theorem Ex1.trans {H H2 : Hp} {b : Addr} {o : HO} (e : Ex1 H b o) (k : ∀ o', H b = some o' → Ex1 H2 b o') : Ex1 H2 b o := by
  obtain ⟨o1, q1, r1⟩ := e
  obtain ⟨o2, q2, r2⟩ := k o1 q1
  refine ⟨o2, q2, fun n => ?_⟩
  have e1 := r1 n
  rw [e1] at r2
  exact r2 n
def vis (O : List Addr) (H : Hp) : Hp := fun b => if b ∈ O then none else match H b with
  | some (.tbl _) => none
  | x => x
theorem vis_in {O : List Addr} {H : Hp} {b : Addr} (h : b ∈ O) : vis O H b = none := if_pos h
theorem vis_out {O : List Addr} {H : Hp} {b : Addr} {o : HO} (h : b ∉ O) (e : H b = some o) (n : NT o := by intro _ z; cases z) : vis O H b = some o := by
  unfold vis
  rw [if_neg h, e]
  split
  · rename_i q
    exact absurd (Option.some.inj q) (n _)
  · rfl
theorem vis_nt {O : List Addr} {H : Hp} {b : Addr} {o : HO} (e : vis O H b = some o) : NT o := fun ps z => by
  unfold vis at e
  split at e
  · cases e
  · split at e
    · cases e
    · rename_i q
      rw [z] at e
      exact q ps e
theorem vis_some {O : List Addr} {H : Hp} {b : Addr} {o : HO} (e : vis O H b = some o) : b ∉ O ∧ H b = some o := by
  unfold vis at e
  split at e
  · cases e
  · rename_i q
    split at e
    · cases e
    · exact ⟨q, e⟩
theorem vis_eq {O O' : List Addr} {H H' : Hp} {b : Addr} (h : b ∉ O) (h' : b ∉ O') (e : H b = H' b) : vis O H b = vis O' H' b := by
  unfold vis
  rw [if_neg h, if_neg h', e]
theorem tabs_keep {T : List (Addr × Str)} {H H' : Hp} (t : LamX.Tabs T H) (k : ∀ b o, H b = some o → ((∃ ps, o = .tbl ps) ∨ ∃ c q, o = LamX.CodeO c q) → H' b = some o) : LamX.Tabs T H' := fun p hp => by
  obtain ⟨ps, h1, h2, h3⟩ := t p hp
  refine ⟨ps, k _ _ h1 (.inl ⟨ps, rfl⟩), h2, fun pos cv hc => ?_⟩
  obtain ⟨c, e1, e2⟩ := h3 pos cv hc
  exact ⟨c, e1, k _ _ e2 (.inr ⟨c, _, rfl⟩)⟩
/-- a list or a dict is neither table nor code -/
def Pln (o : HO) : Prop := (∀ ps, o ≠ .tbl ps) ∧ ∀ c q, o ≠ LamX.CodeO c q
theorem plain_lst {xs : List V} : Pln (.lst xs) := ⟨(fun _ z => by cases z), fun _ _ z => by unfold LamX.CodeO at z; cases z⟩
theorem plain_dK {xs : List (Key × V)} : Pln (.dK xs) := ⟨(fun _ z => by cases z), fun _ _ z => by unfold LamX.CodeO at z; cases z⟩
theorem plain_dT {xs : List (List Key × V)} : Pln (.dT xs) := ⟨(fun _ z => by cases z), fun _ _ z => by unfold LamX.CodeO at z; cases z⟩
theorem tabs_upd {T : List (Addr × Str)} {H : Hp} {a : Addr} {o u : HO} (t : LamX.Tabs T H) (e : H a = some u) (p : Pln u) : LamX.Tabs T (upd H a o) := tabs_keep t fun b w eb hw => by
  rw [upd_ne]
  · exact eb
  · intro z
    subst z
    rw [e] at eb; cases eb
    rcases hw with ⟨ps, z⟩ | ⟨c, q, z⟩
    · exact p.1 _ z
    · exact p.2 _ _ z
def dKey : Key → D
  | .inl i => .int i
  | .inr s => .str s
def tKey (ks : List Key) : D := .tup (ks.map dKey)

mutual
/-- v stands for d in the visible heap H, the hand at hh -/
inductive Rep (G : Pg) (H : Hp) (hh : Option Addr) : V → D → Prop
  | non : Rep G H hh .non .non
  | bl (b : Bool) : Rep G H hh (.bl b) (.bl b)
  | int (i : Int) : Rep G H hh (.int i) (.int i)
  | str (s : Str) : Rep G H hh (.str s) (.str s)
  | tup {a : Addr} {vs : List V} {ds : List D} (e : SqT G.K H a vs) (r : RepL G H hh vs ds) : Rep G H hh (.ref a) (.tup ds)
  | lst {a : Addr} {vs : List V} {ds : List D} (e : H a = some (.lst vs)) (r : RepL G H hh vs ds) : Rep G H hh (.ref a) (.lst ds)
  | dK {a : Addr} {kvs : List (Key × V)} {vs : List V} {ds : List D} {kds : List (D × D)} (e : H a = some (.dK kvs)) (e1 : vs = kvs.map (·.2)) (r : RepL G H hh vs ds) (e2 : kds = (kvs.map fun p => dKey p.1).zip ds) : Rep G H hh (.ref a) (.dct kds)
  | dT {a : Addr} {kvs : List (List Key × V)} {vs : List V} {ds : List D} {kds : List (D × D)} (e : H a = some (.dT kvs)) (e1 : vs = kvs.map (·.2)) (r : RepL G H hh vs ds) (e2 : kds = (kvs.map fun p => tKey p.1).zip ds) : Rep G H hh (.ref a) (.dct kds)
  | obj {a C dx : Addr} {c : Str} {vfs : List (Str × V)} {vs : List V} {ds : List D} {fs : List (Str × D)} (ec : G.CT c = some C) (e : H a = some (.ins C dx vfs)) (e1 : vs = vfs.map (·.2)) (r : RepL G H hh vs ds) (e2 : fs = (vfs.map (·.1)).zip ds) : Rep G H hh (.ref a) (.obj c fs)
  | frz {a : Addr} {vs : List V} {ds : List D} (e : SqL G.K H a vs) (r : RepL G H hh vs ds) : Rep G H hh (.ref a) (.frz ds)
  | hand {a : Addr} (e : hh = some a) : Rep G H hh (.ref a) .hand
  | fn {a : Addr} {x : Str} (e : G.FT x = some a) : Rep G H hh (.ref a) (.fn x)
inductive RepL (G : Pg) (H : Hp) (hh : Option Addr) : List V → List D → Prop
  | nil : RepL G H hh [] []
  | cons {v : V} {d : D} {vs : List V} {ds : List D} (r : Rep G H hh v d) (rs : RepL G H hh vs ds) : RepL G H hh (v :: vs) (d :: ds)
end

section
variable {G : Pg} {H H' : Hp} {hh hh' : Option Addr}
theorem sqT_same {K : PySem.W.Frag} {a : Addr} {xs : List V} (e : Same H H') (h : SqT K H a xs) : SqT K H' a xs := by
  rcases h with (h | ⟨o, h⟩) | h
  · exact .inl (.inl (e _ _ h))
  · exact .inl (.inr ⟨o, e _ _ h⟩)
  · exact .inr h
mutual
theorem Rep.mono (e : Same H H') (eh : ∀ a, hh = some a → hh' = some a) : ∀ {v : V} {d : D}, Rep G H hh v d → Rep G H' hh' v d
  | _, _, .non => .non
  | _, _, .bl b => .bl b
  | _, _, .int i => .int i
  | _, _, .str s => .str s
  | _, _, .tup q r => .tup (sqT_same e q) (RepL.mono e eh r)
  | _, _, .lst q r => .lst (e _ _ q) (RepL.mono e eh r)
  | _, _, .dK q e1 r e2 => .dK (e _ _ q) e1 (RepL.mono e eh r) e2
  | _, _, .dT q e1 r e2 => .dT (e _ _ q) e1 (RepL.mono e eh r) e2
  | _, _, .obj ec q e1 r e2 => .obj ec (e _ _ q) e1 (RepL.mono e eh r) e2
  | _, _, .frz q r => .frz (e.seq q) (RepL.mono e eh r)
  | _, _, .hand q => .hand (eh _ q)
  | _, _, .fn q => .fn q
theorem RepL.mono (e : Same H H') (eh : ∀ a, hh = some a → hh' = some a) : ∀ {vs : List V} {ds : List D}, RepL G H hh vs ds → RepL G H' hh' vs ds
  | _, _, .nil => .nil
  | _, _, .cons r rs => .cons (Rep.mono e eh r) (RepL.mono e eh rs)
end
theorem RepL.length : ∀ {vs : List V} {ds : List D}, RepL G H hh vs ds → vs.length = ds.length
  | _, _, .nil => rfl
  | _, _, .cons _ rs => congrArg (· + 1) rs.length
theorem RepL.get : ∀ {vs : List V} {ds : List D} {i : Nat} {d : D}, RepL G H hh vs ds → ds[i]? = some d → ∃ v, vs[i]? = some v ∧ Rep G H hh v d
  | _, _, _, _, .nil, e => by simp at e
  | _, _, 0, _, .cons r _, e => by
    simp at e; subst e; exact ⟨_, rfl, r⟩
  | _, _, i + 1, _, .cons _ rs, e => by
    obtain ⟨v, h1, h2⟩ := RepL.get (i := i) rs (by simpa using e)
    exact ⟨v, by simpa using h1, h2⟩
theorem RepL.getV {vs : List V} {ds : List D} {i : Nat} {v : V} (h : RepL G H hh vs ds) (e : vs[i]? = some v) : ∃ d, ds[i]? = some d ∧ Rep G H hh v d := by
  have hl := h.length
  have hi : i < ds.length := by
    have := (List.getElem?_eq_some_iff.mp e).1
    omega
  obtain ⟨v', e', r⟩ := h.get (List.getElem?_eq_getElem hi)
  rw [e] at e'; cases e'
  exact ⟨_, List.getElem?_eq_getElem hi, r⟩
theorem RepL.append : ∀ {vs ws : List V} {ds es : List D}, RepL G H hh vs ds → RepL G H hh ws es → RepL G H hh (vs ++ ws) (ds ++ es)
  | _, _, _, _, .nil, s => s
  | _, _, _, _, .cons r rs, s => .cons r (RepL.append rs s)
theorem RepL.take : ∀ {vs : List V} {ds : List D} (n : Nat), RepL G H hh vs ds → RepL G H hh (vs.take n) (ds.take n)
  | _, _, 0, _ => .nil
  | _, _, _ + 1, .nil => .nil
  | _, _, n + 1, .cons r rs => .cons r (RepL.take n rs)
theorem RepL.drop : ∀ {vs : List V} {ds : List D} (n : Nat), RepL G H hh vs ds → RepL G H hh (vs.drop n) (ds.drop n)
  | _, _, 0, r => r
  | _, _, _ + 1, .nil => .nil
  | _, _, n + 1, .cons _ rs => RepL.drop n rs
theorem RepL.set {v : V} {d : D} (r : Rep G H hh v d) : ∀ {vs : List V} {ds : List D} (n : Nat), RepL G H hh vs ds → RepL G H hh (vs.set n v) (ds.set n d)
  | _, _, _, .nil => .nil
  | _, _, 0, .cons _ rs => .cons r rs
  | _, _, n + 1, .cons q rs => .cons q (RepL.set r n rs)
theorem RepL.eraseIdx : ∀ {vs : List V} {ds : List D} (n : Nat), RepL G H hh vs ds → RepL G H hh (vs.eraseIdx n) (ds.eraseIdx n)
  | _, _, _, .nil => .nil
  | _, _, 0, .cons _ rs => rs
  | _, _, n + 1, .cons q rs => .cons q (RepL.eraseIdx n rs)
theorem RepL.reverse : ∀ {vs : List V} {ds : List D}, RepL G H hh vs ds → RepL G H hh vs.reverse ds.reverse
  | _, _, .nil => .nil
  | _, _, .cons r rs => by
    rw [List.reverse_cons, List.reverse_cons]
    exact (RepL.reverse rs).append (.cons r .nil)
theorem RepL.rep {vs : List V} {ds : List D} (h : RepL G H hh vs ds) : ∀ k : Nat, RepL G H hh (List.replicate k vs).flatten (List.replicate k ds).flatten
  | 0 => .nil
  | k + 1 => by
    rw [List.replicate_succ, List.replicate_succ, List.flatten_cons, List.flatten_cons]
    exact h.append (RepL.rep h k)
/-- lists of plain numbers -/
theorem RepL.ints : ∀ {vs : List V} {ns : List Int}, RepL G H hh vs (ns.map D.int) → vs = ns.map V.int
  | _, [], h => by cases h; rfl
  | _, n :: ns, h => by
    cases h with
    | cons r rs =>
      cases r
      rw [RepL.ints rs]
      rfl
theorem RepL.of_ints : ∀ (ns : List Int), RepL G H hh (ns.map V.int) (ns.map D.int)
  | [] => .nil
  | n :: ns => .cons (.int n) (RepL.of_ints ns)
theorem RepL.bls : ∀ {vs : List V} {bs : List Bool}, RepL G H hh vs (bs.map D.bl) → vs = bs.map V.bl
  | _, [], h => by cases h; rfl
  | _, n :: ns, h => by
    cases h with
    | cons r rs =>
      cases r
      rw [RepL.bls rs]
      rfl
end

/-! ### the hand -/
/-- the hand's list: cells, place, great number, state, count -/
def HandOk (O : List Addr) (H : Hp) (a : Addr) : Prop := a ∈ O ∧ ∃ (c : Addr) (cells : List Int) (p : Nat) (big st cnt : Int), H a = some (.lst [.ref c, .int p, .int big, .int st, .int cnt]) ∧
  c ∉ O ∧ H c = some (.lst (cells.map V.int)) ∧ (∀ x ∈ cells, 0 ≤ x) ∧ 0 ≤ big ∧ 0 ≤ st ∧ 0 ≤ cnt ∧ st < 2 ^ 63

/-- the def's entry: the hidden and the heap there -/
structure Ent where
  G : Pg
  Z : Zs
  H : Hp
/-- what a caught error's fields are -/
def ErD (G : Pg) (H : Hp) (hh : Option Addr) (dd : Option Addr) (fs : List (Str × D)) : Prop := match dd with
  | none => fs = []
  | some p => ∃ (vfs : List (Str × V)) (ds : List D), H p = some (.xd vfs) ∧ RepL G H hh (vfs.map (·.2)) ds ∧ fs = (vfs.map (·.1)).zip ds
theorem ErD.mono {G : Pg} {H H' : Hp} {hh hh' : Option Addr} {dd : Option Addr} {fs : List (Str × D)} (e : Same H H') (eh : ∀ a, hh = some a → hh' = some a) (h : ErD G H hh dd fs) : ErD G H' hh' dd fs := by
  cases dd with
  | none => exact h
  | some p =>
    obtain ⟨vfs, ds, h1, h2, h3⟩ := h
    exact ⟨vfs, ds, e _ _ h1, h2.mono e eh, h3⟩
def SlotOk (S : Ent) (Z : Zs) (σ : L2.St) (H : Hp) (i : Nat) : Sl → Prop
  | .no => True
  | .pin a dd fs => σ[i]? = some (some (.ref a)) ∧ ErD S.G (vis Z.O H) Z.h dd fs
  | .val d => ∃ v, σ[i]? = some (some v) ∧ Rep S.G (vis Z.O H) Z.h v d
  | .own a xs => ∃ vs, σ[i]? = some (some (.ref a)) ∧ a ∈ Z.O ∧ Z.h ≠ some a ∧ S.H a = none ∧ H a = some (.lst vs) ∧ RepL S.G (vis Z.O H) Z.h vs xs
  | .ownd a kvs => ∃ vs ds, σ[i]? = some (some (.ref a)) ∧ a ∈ Z.O ∧ Z.h ≠ some a ∧ S.H a = none ∧ RepL S.G (vis Z.O H) Z.h vs ds ∧
      ∃ hk : List (Key × V), H a = some (.dK hk) ∧ vs = hk.map (·.2) ∧ kvs = (hk.map fun p => dKey p.1).zip ds
def Sl.owns : Sl → Bool
  | .own _ _ => true
  | .ownd _ _ => true
  | _ => false
/-- a is no slot's own -/
def NotOwned (env : Env) (σ : L2.St) (a : Addr) : Prop := ∀ (j : Nat) (x : Sl), env[j]? = some x → x.owns = true → σ[j]? ≠ some (some (V.ref a))
/-- a hidden address that no slot owns -/
structure Spare (S : Ent) (Z : Zs) (env : Env) (σ : L2.St) (a : Addr) : Prop where
  ino : a ∈ Z.O
  nh : Z.h ≠ some a
  ne : S.H a = none
  no : NotOwned env σ a
structure Rel (S : Ent) (Z : Zs) (env : Env) (σ : L2.St) (H : Hp) : Prop where
  oin : ∀ a ∈ Z.O, H a ≠ none
  sub : ∀ a ∈ S.Z.O, a ∈ Z.O
  hnd : ∀ a, Z.h = some a → HandOk Z.O H a
  hsub : Z.h = S.Z.h
  frame : ∀ b o, S.H b = some o → S.Z.h ≠ some b → Ex1 H b o
  ehnd : ∀ a ∈ S.Z.O, S.H a ≠ none
  nhnd : ∀ a, Z.h = some a → S.Z.h = some a ∨ S.H a = none
  len : env.length = σ.length
  slots : ∀ i x, env[i]? = some x → SlotOk S Z σ H i x
  inj : ∀ (i j : Nat) (x y : Sl) (a : Addr), env[i]? = some x → env[j]? = some y → x.owns = true → y.owns = true → σ[i]? = some (some (V.ref a)) → σ[j]? = some (some (V.ref a)) → i = j
  res : ∀ a ∈ Z.B, Spare S Z env σ a
  tabs : LamX.Tabs S.G.T H
  osb : ∀ a ∈ Z.O, a ∈ S.Z.O ∨ S.H a = none

/-- what an expression leaves of the hidden and the heap: all but the hand stays -/
structure Tr (Z : Zs) (H : Hp) (Z' : Zs) (H' : Hp) : Prop where
  keep : ∀ b o, H b = some o → Z.h ≠ some b → Ex1 H' b o
  osub : ∀ a ∈ Z'.O, a ∈ Z.O ∨ H a = none
  hh : ∀ a, Z.h = some a → Z'.h = some a
  hz : ∀ x, Z'.h = some x → Z.h = some x ∨ H x = none
  bb : Z'.B = Z.B
/-- what is visible stays so -/
structure Vle (Z : Zs) (H : Hp) (Z' : Zs) (H' : Hp) : Prop where
  same : Same (vis Z.O H) (vis Z'.O H')
  hh : ∀ a, Z.h = some a → Z'.h = some a
section
variable {S : Ent} {Z Z' Z2 : Zs} {env : Env} {σ : L2.St} {H H' H2 : Hp}
theorem Tr.refl : Tr Z H Z H := ⟨fun _ _ e _ => .of e, fun _ h => .inl h, fun _ h => h, fun _ h => .inl h, rfl⟩
theorem Tr.alloc (k : Same H H') : Tr Z H Z H' := ⟨fun b o e _ => .of (k b o e), fun _ h => .inl h, fun _ h => h, fun _ h => .inl h, rfl⟩
theorem Tr.vle (t : Tr Z H Z' H') (hO : ∀ a, Z.h = some a → a ∈ Z.O) : Vle Z H Z' H' := by
  refine ⟨fun b o e => ?_, t.hh⟩
  obtain ⟨h1, h2⟩ := vis_some e
  have h3 : b ∉ Z'.O := fun hb => by
    rcases t.osub b hb with z | z
    · exact h1 z
    · rw [h2] at z; cases z
  have n := vis_nt e
  exact vis_out h3 ((t.keep b o h2 fun z => h1 (hO b z)).get n) n
theorem Vle.refl : Vle Z H Z H := ⟨fun _ _ e => e, fun _ h => h⟩
theorem Vle.trans (a : Vle Z H Z' H') (b : Vle Z' H' Z2 H2) : Vle Z H Z2 H2 := ⟨a.same.trans b.same, fun x h => b.hh x (a.hh x h)⟩
theorem Vle.rep {G : Pg} {v : V} {d : D} (t : Vle Z H Z' H') (r : Rep G (vis Z.O H) Z.h v d) : Rep G (vis Z'.O H') Z'.h v d := r.mono t.same t.hh
theorem Vle.repL {G : Pg} {v : List V} {d : List D} (t : Vle Z H Z' H') (r : RepL G (vis Z.O H) Z.h v d) : RepL G (vis Z'.O H') Z'.h v d := r.mono t.same t.hh
theorem Rel.hin (R : Rel S Z env σ H) : ∀ a, Z.h = some a → a ∈ Z.O := fun a h => (R.hnd a h).1
theorem Rel.vle (R : Rel S Z env σ H) (t : Tr Z H Z' H') : Vle Z H Z' H' := t.vle R.hin
/-- R: of the state in the middle -/
theorem Tr.trans (R : Rel S Z' env σ H') (a : Tr Z H Z' H') (b : Tr Z' H' Z2 H2) : Tr Z H Z2 H2 := by
  have up : ∀ x, H' x = none → H x = none := fun x z => by
    cases q : H x with
    | none => rfl
    | some o =>
      by_cases hn : Z.h = some x
      · have := (R.hnd x (a.hh x hn)).1
        exact absurd z (R.oin x this)
      · exact absurd z (a.keep x o q hn).ne
  refine ⟨fun x o e n => (a.keep x o e n).trans fun o' e' => b.keep x o' e' fun z => ?_, fun x hx => ?_, fun x h => b.hh x (a.hh x h), fun x h => ?_, b.bb.trans a.bb⟩
  · rcases a.hz x z with q | q
    · exact n q
    · rw [e] at q; cases q
  · rcases b.osub x hx with z | z
    · exact a.osub x z
    · exact .inr (up x z)
  · rcases b.hz x h with z | z
    · exact a.hz x z
    · exact .inr (up x z)
theorem HandOk.mono {O O' : List Addr} {a : Addr} (h : HandOk O H a) (ha : a ∈ O') (hO : ∀ c, c ∉ O → H c ≠ none → c ∉ O') (k : ∀ b o, H b = some o → b = a ∨ b ∉ O → H' b = some o) : HandOk O' H' a := by
  obtain ⟨h0, c, cells, p, big, st, cnt, e1, nc, e2, q⟩ := h
  exact ⟨ha, c, cells, p, big, st, cnt, k _ _ e1 (.inl rfl), hO c nc (by rw [e2]; simp), k _ _ e2 (.inr nc), q⟩
theorem SlotOk.mono {i : Nat} {x : Sl} (h : SlotOk S Z σ H i x) (v : Vle Z H Z' H') (hO : ∀ a, x.owns = true → σ[i]? = some (some (.ref a)) → a ∈ Z.O → S.H a = none → Z.h ≠ some a → a ∈ Z'.O ∧ Z'.h ≠ some a ∧ ∀ o, H a = some o → NT o → H' a = some o) : SlotOk S Z' σ H' i x := by
  cases x with
  | no => trivial
  | pin a dd fs => exact ⟨h.1, h.2.mono v.same v.hh⟩
  | val d => obtain ⟨w, e, r⟩ := h; exact ⟨w, e, v.rep r⟩
  | own a xs =>
    obtain ⟨vs, e, h1, h2, h3, h4, h5⟩ := h
    obtain ⟨q1, q2, q3⟩ := hO a rfl e h1 h3 h2
    exact ⟨vs, e, q1, q2, h3, q3 _ h4 (fun _ z => by cases z), v.repL h5⟩
  | ownd a kvs =>
    obtain ⟨vs, ds, e, h1, h2, h3, h4, h5⟩ := h
    obtain ⟨q1, q2, q3⟩ := hO a rfl e h1 h3 h2
    refine ⟨vs, ds, e, q1, q2, h3, v.repL h4, ?_⟩
    obtain ⟨hk, e1, e2⟩ := h5
    exact ⟨hk, q3 _ e1 (fun _ z => by cases z), e2⟩
/-- new objects; the hand may have moved -/
theorem Rel.step (R : Rel S Z env σ H) (k : ∀ b o, H b = some o → Z.h ≠ some b → Ex1 H' b o) (hd : ∀ a, Z.h = some a → HandOk Z.O H' a) (tt : LamX.Tabs S.G.T H') : Rel S Z env σ H' := by
  have t : Tr Z H Z H' := ⟨k, fun _ h => .inl h, fun _ h => h, fun _ h => .inl h, rfl⟩
  refine ⟨fun a ha z => ?_, R.sub, hd, R.hsub, fun b o e n => ?_, R.ehnd, R.nhnd, R.len, fun i x e => ?_, R.inj, R.res, tt, R.osb⟩
  · by_cases hn : Z.h = some a
    · obtain ⟨_, _, _, _, _, _, _, q, _⟩ := hd a hn
      rw [z] at q; cases q
    · cases q : H a with
      | none => exact R.oin a ha q
      | some o => exact absurd z (k a o q hn).ne
  · refine (R.frame b o e n).trans fun o' e' => k b o' e' fun z => ?_
    rcases R.nhnd b z with q | q
    · exact n q
    · rw [e] at q; cases q
  · exact (R.slots i x e).mono (R.vle t) fun a _ _ h1 _ h2 => ⟨h1, h2, fun o q n => (k a o q h2).get n⟩
theorem Rel.grow (R : Rel S Z env σ H) (k : Same H H') : Rel S Z env σ H' :=
  R.step (fun b o e _ => .of (k b o e)) (fun a h => (R.hnd a h).mono (R.hin a h) (fun _ n _ => n) fun b o e _ => k b o e) (R.tabs.ext k)
theorem Rel.free (R : Rel S Z env σ H) {p : Addr} (h : H p = none) : p ∉ Z.O := fun hp => R.oin p hp h
theorem Rel.fresh0 (R : Rel S Z env σ H) {p : Addr} (h : H p = none) : S.H p = none := by
  cases q : S.H p with
  | none => rfl
  | some o =>
    by_cases hn : S.Z.h = some p
    · exact absurd h (R.oin p (R.hin p (R.hsub.trans hn)))
    · exact absurd h (R.frame p o q hn).ne
theorem same_upd {p : Addr} {o : HO} (h : H p = none) : Same H (upd H p o) := fun b u e => by rw [upd_ne (ne_of_none e h)]; exact e
theorem vis_upd_in {O : List Addr} {p : Addr} {o : HO} (h : p ∈ O) : vis O (upd H p o) = vis O H := by
  funext b
  by_cases hb : b ∈ O
  · rw [vis_in hb, vis_in hb]
  · exact vis_eq hb hb (upd_ne (fun z => hb (by rw [z]; exact h)))
theorem vis_cons {O : List Addr} {p : Addr} (h : H p = none) : vis (p :: O) H = vis O H := by
  funext b
  by_cases hb : b ∈ O
  · rw [vis_in hb, vis_in (List.mem_cons_of_mem _ hb)]
  · by_cases hp : b = p
    · subst hp
      rw [vis_in List.mem_cons_self]
      unfold vis
      rw [if_neg hb, h]
    · exact vis_eq (by simp [hp, hb]) hb rfl
/-- a value is stored -/
theorem NotOwned.set {i : Nat} {v : Option V} {x : Sl} (hx : x.owns = false) {a : Addr} (n : NotOwned env σ a) : NotOwned (env.set i x) (σ.set i v) a := fun j y e o s => by
  by_cases hj : i = j
  · subst hj
    by_cases hi : i < env.length
    · rw [List.getElem?_set_self hi] at e; cases e; rw [hx] at o; cases o
    · rw [List.getElem?_eq_none (by simpa using hi)] at e; cases e
  · rw [List.getElem?_set_ne hj] at e s
    exact n j y e o s
theorem Rel.put (R : Rel S Z env σ H) {i : Nat} {v : V} {d : D} (r : Rep S.G (vis Z.O H) Z.h v d) : Rel S Z (env.set i (.val d)) (σ.set i (some v)) H := by
  refine ⟨R.oin, R.sub, R.hnd, R.hsub, R.frame, R.ehnd, R.nhnd, by simp [R.len], fun j x e => ?_, fun j k x y a e1 e2 o1 o2 s1 s2 => ?_, fun a ha => let q := R.res a ha; ⟨q.ino, q.nh, q.ne, q.no.set rfl⟩, R.tabs, R.osb⟩
  · by_cases hj : i = j
    · subst hj
      by_cases hi : i < env.length
      · rw [List.getElem?_set_self hi] at e; cases e
        exact ⟨v, by rw [List.getElem?_set_self (by rw [← R.len]; exact hi)], r⟩
      · rw [List.getElem?_eq_none (by simpa using hi)] at e; cases e
    · rw [List.getElem?_set_ne hj] at e
      have := R.slots j x e
      have es : (σ.set i (some v))[j]? = σ[j]? := List.getElem?_set_ne hj
      cases x with
      | no => trivial
      | pin a dd fs => exact ⟨es.trans this.1, this.2⟩
      | val d => obtain ⟨w, e, r⟩ := this; exact ⟨w, es.trans e, r⟩
      | own a xs => obtain ⟨vs, e, q⟩ := this; exact ⟨vs, es.trans e, q⟩
      | ownd a xs => obtain ⟨vs, ds, e, q⟩ := this; exact ⟨vs, ds, es.trans e, q⟩
  · have nj : ∀ (j : Nat) (x : Sl), (env.set i (.val d))[j]? = some x → x.owns = true → i ≠ j ∧ env[j]? = some x := fun j x e o => by
      by_cases hj : i = j
      · subst hj
        by_cases hi : i < env.length
        · rw [List.getElem?_set_self hi] at e; cases e; cases o
        · rw [List.getElem?_eq_none (by simpa using hi)] at e; cases e
      · rw [List.getElem?_set_ne hj] at e; exact ⟨hj, e⟩
    obtain ⟨n1, e1⟩ := nj j x e1 o1
    obtain ⟨n2, e2⟩ := nj k y e2 o2
    rw [List.getElem?_set_ne n1] at s1
    rw [List.getElem?_set_ne n2] at s2
    exact R.inj j k x y a e1 e2 o1 o2 s1 s2
/-- nothing is known of a slot any more -/
theorem Rel.drop1 (R : Rel S Z env σ H) {i : Nat} {v : Option V} : Rel S Z (env.set i .no) (σ.set i v) H := by
  refine ⟨R.oin, R.sub, R.hnd, R.hsub, R.frame, R.ehnd, R.nhnd, by simp [R.len], fun j x e => ?_, fun j k x y a e1 e2 o1 o2 s1 s2 => ?_, fun a ha => let q := R.res a ha; ⟨q.ino, q.nh, q.ne, q.no.set rfl⟩, R.tabs, R.osb⟩
  · by_cases hj : i = j
    · subst hj
      by_cases hi : i < env.length
      · rw [List.getElem?_set_self hi] at e; cases e
        trivial
      · rw [List.getElem?_eq_none (by simpa using hi)] at e; cases e
    · rw [List.getElem?_set_ne hj] at e
      have := R.slots j x e
      have es : (σ.set i v)[j]? = σ[j]? := List.getElem?_set_ne hj
      cases x with
      | no => trivial
      | pin a dd fs => exact ⟨es.trans this.1, this.2⟩
      | val d => obtain ⟨w, e, r⟩ := this; exact ⟨w, es.trans e, r⟩
      | own a xs => obtain ⟨vs, e, q⟩ := this; exact ⟨vs, es.trans e, q⟩
      | ownd a xs => obtain ⟨vs, ds, e, q⟩ := this; exact ⟨vs, ds, es.trans e, q⟩
  · have nj : ∀ (j : Nat) (x : Sl), (env.set i .no)[j]? = some x → x.owns = true → i ≠ j ∧ env[j]? = some x := fun j x e o => by
      by_cases hj : i = j
      · subst hj
        by_cases hi : i < env.length
        · rw [List.getElem?_set_self hi] at e; cases e; cases o
        · rw [List.getElem?_eq_none (by simpa using hi)] at e; cases e
      · rw [List.getElem?_set_ne hj] at e; exact ⟨hj, e⟩
    obtain ⟨n1, e1⟩ := nj j x e1 o1
    obtain ⟨n2, e2⟩ := nj k y e2 o2
    rw [List.getElem?_set_ne n1] at s1
    rw [List.getElem?_set_ne n2] at s2
    exact R.inj j k x y a e1 e2 o1 o2 s1 s2
/-- an unknown slot is known -/
theorem Rel.reslot (R : Rel S Z env σ H) {i : Nat} {x : Sl} (e : env[i]? = some .no) (hx : x.owns = false) (h : SlotOk S Z σ H i x) : Rel S Z (env.set i x) σ H := by
  have hi : i < env.length := (List.getElem?_eq_some_iff.mp e).1
  have nj : ∀ (j : Nat) (y : Sl), (env.set i x)[j]? = some y → y.owns = true → i ≠ j ∧ env[j]? = some y := fun j y ej o => by
    by_cases hj : i = j
    · subst hj
      rw [List.getElem?_set_self hi] at ej; cases ej; rw [hx] at o; cases o
    · rw [List.getElem?_set_ne hj] at ej; exact ⟨hj, ej⟩
  refine ⟨R.oin, R.sub, R.hnd, R.hsub, R.frame, R.ehnd, R.nhnd, by simp [R.len], fun j y ej => ?_, fun j k y z a e1 e2 o1 o2 s1 s2 => R.inj j k y z a (nj j y e1 o1).2 (nj k z e2 o2).2 o1 o2 s1 s2, fun a ha => ?_, R.tabs, R.osb⟩
  · by_cases hj : i = j
    · subst hj
      rw [List.getElem?_set_self hi] at ej; cases ej; exact h
    · rw [List.getElem?_set_ne hj] at ej; exact R.slots j y ej
  · have q := R.res a ha
    exact ⟨q.ino, q.nh, q.ne, fun j y ej o s => q.no j y (nj j y ej o).2 o s⟩
/-- what stands at a hidden address, of an owning slot's content x -/
def OwnAt (S : Ent) (Z : Zs) (H : Hp) (a : Addr) : Sl → Prop
  | .own b xs => b = a ∧ ∃ vs, H a = some (.lst vs) ∧ RepL S.G (vis Z.O H) Z.h vs xs
  | .ownd b kvs => b = a ∧ ∃ vs ds, RepL S.G (vis Z.O H) Z.h vs ds ∧
      ∃ hk : List (Key × V), H a = some (.dK hk) ∧ vs = hk.map (·.2) ∧ kvs = (hk.map fun p => dKey p.1).zip ds
  | _ => False
theorem SlotOk.of_own {a : Addr} {x : Sl} {i : Nat} (e : σ[i]? = some (some (.ref a))) (h1 : a ∈ Z.O) (h2 : Z.h ≠ some a) (h3 : S.H a = none) (h : OwnAt S Z H a x) : SlotOk S Z σ H i x := by
  cases x with
  | no => exact h.elim
  | pin _ _ _ => exact h.elim
  | val d => exact h.elim
  | own b xs => obtain ⟨rfl, vs, q1, q2⟩ := h; exact ⟨vs, e, h1, h2, h3, q1, q2⟩
  | ownd b kvs => obtain ⟨rfl, vs, ds, q1, q2⟩ := h; exact ⟨vs, ds, e, h1, h2, h3, q1, q2⟩
theorem SlotOk.to_own {x : Sl} {i : Nat} (h : SlotOk S Z σ H i x) (o : x.owns = true) : ∃ a, σ[i]? = some (some (.ref a)) ∧ a ∈ Z.O ∧ Z.h ≠ some a ∧ S.H a = none ∧ OwnAt S Z H a x := by
  cases x with
  | no => cases o
  | pin _ _ _ => cases o
  | val d => cases o
  | own a xs => obtain ⟨vs, e, h1, h2, h3, q1, q2⟩ := h; exact ⟨a, e, h1, h2, h3, rfl, vs, q1, q2⟩
  | ownd a kvs => obtain ⟨vs, ds, e, h1, h2, h3, q1, q2⟩ := h; exact ⟨a, e, h1, h2, h3, rfl, vs, ds, q1, q2⟩
/-- an own list is stored -/
theorem Rel.putOwn (R : Rel S Z env σ H) {i : Nat} {a : Addr} {x : Sl} (ho : x.owns = true) (h1 : a ∈ Z.O) (h2 : Z.h ≠ some a) (h3 : S.H a = none) (h : OwnAt S Z H a x) (n : NotOwned env σ a) (nb : a ∉ Z.B) : Rel S Z (env.set i x) (σ.set i (some (.ref a))) H := by
  have R0 := R.drop1 (i := i) (v := some (.ref a))
  by_cases hi : i < env.length
  · have hs : i < σ.length := by rw [← R.len]; exact hi
    refine ⟨R.oin, R.sub, R.hnd, R.hsub, R.frame, R.ehnd, R.nhnd, by simp [R.len], fun j y e => ?_, fun j k y z b e1 e2 o1 o2 s1 s2 => ?_, fun b hb => let q := R.res b hb; ⟨q.ino, q.nh, q.ne, fun j y e o s => ?_⟩, R.tabs, R.osb⟩
    · by_cases hj : i = j
      · subst hj
        rw [List.getElem?_set_self hi] at e; cases e
        exact .of_own (by rw [List.getElem?_set_self hs]) h1 h2 h3 h
      · rw [List.getElem?_set_ne hj] at e
        exact R0.slots j y (by rw [List.getElem?_set_ne hj]; exact e)
    · have key : ∀ (j : Nat) (y : Sl), (env.set i x)[j]? = some y → y.owns = true → (σ.set i (some (V.ref a)))[j]? = some (some (V.ref b)) → (i = j ∧ b = a) ∨ (i ≠ j ∧ env[j]? = some y ∧ σ[j]? = some (some (V.ref b))) := fun j y e o s => by
        by_cases hj : i = j
        · subst hj
          rw [List.getElem?_set_self hs] at s; cases s
          exact .inl ⟨rfl, rfl⟩
        · rw [List.getElem?_set_ne hj] at e s
          exact .inr ⟨hj, e, s⟩
      rcases key j y e1 o1 s1 with ⟨p1, p2⟩ | ⟨p1, p2, p3⟩ <;> rcases key k z e2 o2 s2 with ⟨q1, q2⟩ | ⟨q1, q2, q3⟩
      · rw [← p1, ← q1]
      · exact absurd (by rw [← p2]; exact q3) (n k z q2 o2)
      · exact absurd (by rw [← q2]; exact p3) (n j y p2 o1)
      · exact R.inj j k y z b p2 q2 o1 o2 p3 q3
    · by_cases hj : i = j
      · subst hj
        rw [List.getElem?_set_self hs] at s; cases s
        exact nb hb
      · rw [List.getElem?_set_ne hj] at e s
        exact q.no j y e o s
  · have e1 : env.set i x = env := List.set_eq_of_length_le (by omega)
    have e2 : σ.set i (some (.ref a)) = σ := List.set_eq_of_length_le (by rw [← R.len]; omega)
    rw [e1, e2]; exact R
theorem own_pln {x : Sl} {i : Nat} {a : Addr} (h : SlotOk S Z σ H i x) (o : x.owns = true) (es : σ[i]? = some (some (.ref a))) : ∃ u, H a = some u ∧ Pln u := by
  cases x with
  | no => cases o
  | pin _ _ _ => cases o
  | val d => cases o
  | own b xs =>
    obtain ⟨vs, e, _, _, _, q1, _⟩ := h
    rw [es] at e; cases e
    exact ⟨_, q1, plain_lst⟩
  | ownd b xs =>
    obtain ⟨vs, ds, e, _, _, _, _, q⟩ := h
    rw [es] at e; cases e
    obtain ⟨hk, q1, _⟩ := q
    exact ⟨_, q1, plain_dK⟩
/-- an own list is written -/
theorem Rel.write (R : Rel S Z env σ H) {i : Nat} {a : Addr} {x y : Sl} {o : HO} (e : env[i]? = some x) (hx : x.owns = true) (hy : y.owns = true) (es : σ[i]? = some (some (.ref a))) (h : OwnAt S Z (upd H a o) a y) : Rel S Z (env.set i y) σ (upd H a o) := by
  obtain ⟨a', es', h1, h2, h3, _⟩ := (R.slots i x e).to_own hx
  rw [es] at es'; cases es'
  have hv : vis Z.O (upd H a o) = vis Z.O H := vis_upd_in h1
  have hi : i < env.length := (List.getElem?_eq_some_iff.mp e).1
  refine ⟨fun b hb => ?_, R.sub, fun b hb => ?_, R.hsub, fun b u q n => ?_, R.ehnd, R.nhnd, by simp [R.len], fun j z ej => ?_, fun j k z w b e1 e2 o1 o2 s1 s2 => ?_, fun b hb => let q := R.res b hb; ⟨q.ino, q.nh, q.ne, fun j z ej o s => ?_⟩, ?_, R.osb⟩
  · by_cases hba : b = a
    · rw [hba, upd_same]; simp
    · rw [upd_ne hba]; exact R.oin b hb
  · refine (R.hnd b hb).mono (R.hin b hb) (fun _ n _ => n) fun c u q hc => ?_
    rw [upd_ne]
    · exact q
    · rintro rfl
      rcases hc with z | z
      · exact h2 (by rw [z]; exact hb)
      · exact z h1
  · obtain ⟨u', e1, e2⟩ := R.frame b u q n
    exact ⟨u', by rw [upd_ne (fun z => by rw [z, h3] at q; cases q)]; exact e1, e2⟩
  · by_cases hj : i = j
    · subst hj
      rw [List.getElem?_set_self hi] at ej; cases ej
      exact .of_own es h1 h2 h3 h
    · rw [List.getElem?_set_ne hj] at ej
      refine (R.slots j z ej).mono ⟨fun b u q => by rw [hv]; exact q, fun _ h => h⟩ fun c oc sc g1 g2 g3 => ⟨g1, g3, fun u q _ => ?_⟩
      rw [upd_ne]
      · exact q
      rintro rfl
      exact hj (R.inj i j x z c e ej hx oc es sc)
  · have key : ∀ (j : Nat) (z : Sl), (env.set i y)[j]? = some z → z.owns = true → ∃ z', env[j]? = some z' ∧ z'.owns = true := fun j z ej o => by
      by_cases hj : i = j
      · subst hj; exact ⟨x, e, hx⟩
      · rw [List.getElem?_set_ne hj] at ej; exact ⟨z, ej, o⟩
    obtain ⟨z', f1, f2⟩ := key j z e1 o1
    obtain ⟨w', g1, g2⟩ := key k w e2 o2
    exact R.inj j k z' w' b f1 g1 f2 g2 s1 s2
  · by_cases hj : i = j
    · subst hj; exact q.no i x e hx s
    · rw [List.getElem?_set_ne hj] at ej; exact q.no j z ej o s
  · obtain ⟨u, e1, e2⟩ := own_pln (R.slots i x e) hx es
    exact tabs_upd R.tabs e1 e2
/-- a new object is laid, hidden -/
theorem Rel.hide (R : Rel S Z env σ H) {p : Addr} {o : HO} (hp : H p = none) : Rel S ⟨p :: Z.O, Z.h, Z.B⟩ env σ (upd H p o) ∧ Tr Z H ⟨p :: Z.O, Z.h, Z.B⟩ (upd H p o) ∧ NotOwned env σ p ∧ S.H p = none ∧ Z.h ≠ some p ∧ p ∉ Z.O := by
  have hn : p ∉ Z.O := R.free hp
  have h0 := R.fresh0 hp
  have hhp : Z.h ≠ some p := fun z => hn (R.hin p z)
  have k := same_upd (o := o) hp
  have hv : vis (p :: Z.O) (upd H p o) = vis Z.O H := by
    rw [vis_upd_in List.mem_cons_self, vis_cons hp]
  have no : NotOwned env σ p := fun j x e ho s => by
    obtain ⟨a, s', q, _⟩ := (R.slots j x e).to_own ho
    rw [s] at s'; cases s'
    exact hn q
  refine ⟨⟨fun b hb => ?_, fun b hb => List.mem_cons_of_mem _ (R.sub b hb), fun b hb => ?_, R.hsub, fun b u q n => (R.frame b u q n).trans fun o' e' => .of (k b o' e'), R.ehnd, R.nhnd, R.len, fun j x e => ?_, R.inj, fun b hb => let q := R.res b hb; ⟨List.mem_cons_of_mem _ q.ino, q.nh, q.ne, q.no⟩, R.tabs.ext k, fun b hb => (List.mem_cons.mp hb).elim (fun z => .inr (by rw [z]; exact h0)) (R.osb b)⟩, ⟨fun b u q _ => .of (k b u q), fun b hb => ?_, fun _ h => h, fun _ h => .inl h, rfl⟩, no, h0, hhp, hn⟩
  · rcases List.mem_cons.mp hb with rfl | hb
    · rw [upd_same]; simp
    · cases q : H b with
      | none => exact absurd q (R.oin b hb)
      | some u => rw [k b u q]; simp
  · refine (R.hnd b hb).mono (List.mem_cons_of_mem _ (R.hin b hb)) (fun c n hc z => ?_) fun c u q _ => k c u q
    rcases List.mem_cons.mp z with rfl | z
    · exact hc hp
    · exact n z
  · refine (R.slots j x e).mono ⟨fun b u q => by rw [hv]; exact q, fun _ h => h⟩ fun c oc sc g1 g2 g3 => ⟨List.mem_cons_of_mem _ g1, g3, fun u q _ => ?_⟩
    rw [upd_ne]
    · exact q
    rintro rfl
    exact hn g1
  · rcases List.mem_cons.mp hb with rfl | hb
    · exact .inr hp
    · exact .inl hb
/-- a hidden object that no slot owns is shown -/
theorem Rel.unhide (R : Rel S Z env σ H) {p : Addr} (no : NotOwned env σ p) (h0 : S.H p = none) (hhp : Z.h ≠ some p) (sp : p ∉ S.Z.O) (nb : p ∉ Z.B) : Rel S ⟨Z.O.filter fun b => decide (b ≠ p), Z.h, Z.B⟩ env σ H ∧ Vle Z H ⟨Z.O.filter fun b => decide (b ≠ p), Z.h, Z.B⟩ H := by
  have mem : ∀ b, b ∈ Z.O.filter (fun b => decide (b ≠ p)) ↔ b ∈ Z.O ∧ b ≠ p := fun b => by simp
  have v : Vle Z H ⟨Z.O.filter fun b => decide (b ≠ p), Z.h, Z.B⟩ H := ⟨fun b u q => by
    obtain ⟨h1, h2⟩ := vis_some q
    exact vis_out (fun z => h1 ((mem b).mp z).1) h2 (vis_nt q), fun _ h => h⟩
  refine ⟨⟨fun b hb => R.oin b ((mem b).mp hb).1, fun b hb => (mem b).mpr ⟨R.sub b hb, fun z => sp (by rw [← z]; exact hb)⟩, fun b hb => ?_, R.hsub, R.frame, R.ehnd, R.nhnd, R.len, fun j x e => ?_, R.inj, fun b hb => let q := R.res b hb; ⟨(mem b).mpr ⟨q.ino, fun z => nb (by rw [← z]; exact hb)⟩, q.nh, q.ne, q.no⟩, R.tabs, fun b hb => R.osb b ((mem b).mp hb).1⟩, v⟩
  · exact (R.hnd b hb).mono ((mem b).mpr ⟨R.hin b hb, fun z => hhp (by rw [← z]; exact hb)⟩) (fun c n _ z => n ((mem c).mp z).1) fun _ _ q _ => q
  · refine (R.slots j x e).mono v fun c oc sc g1 g2 g3 => ⟨(mem c).mpr ⟨g1, fun z => ?_⟩, g3, fun _ q _ => q⟩
    subst z
    exact no j x e oc sc
theorem set_getD {α : Type} {l : List (Option α)} {i : Nat} {x : Option α} (h : l[i]? = some x) : l.set i x = l := by
  apply List.ext_getElem?
  intro j
  by_cases hj : i = j
  · subst hj
    rw [List.getElem?_set_self (List.getElem?_eq_some_iff.mp h).1, h]
  · rw [List.getElem?_set_ne hj]
theorem Rel.entOut (R : Rel S Z env σ H) {a : Addr} (h : S.H a = none) : a ∉ S.Z.O := fun z => R.ehnd a z h
/-- an own list becomes a value -/
theorem Rel.freeze (R : Rel S Z env σ H) {i : Nat} {a : Addr} {xs : List D} (e : env[i]? = some (.own a xs)) :
    ∃ (Z' : Zs), σ[i]? = some (some (.ref a)) ∧ Rel S Z' (env.set i (.val (.lst xs))) σ H ∧ Tr Z H Z' H ∧ Rep S.G (vis Z'.O H) Z'.h (.ref a) (.lst xs) := by
  obtain ⟨vs, es, h1, h2, h3, h4, h5⟩ := R.slots i _ e
  have R1 := R.drop1 (i := i) (v := some (.ref a))
  rw [set_getD es] at R1
  have no : NotOwned (env.set i .no) σ a := fun j x ej o s => by
    by_cases hj : i = j
    · subst hj
      rw [List.getElem?_set_self (List.getElem?_eq_some_iff.mp e).1] at ej; cases ej; cases o
    · rw [List.getElem?_set_ne hj] at ej
      exact hj (R.inj i j _ x a e ej rfl o es s)
  obtain ⟨R2, v2⟩ := R1.unhide no h3 h2 (R.entOut h3) fun hb => (R.res a hb).no i _ e rfl es
  have rp : Rep S.G (vis (Z.O.filter fun b => decide (b ≠ a)) H) Z.h (.ref a) (.lst xs) := .lst (vis_out (by simp) h4) (v2.repL h5)
  have R3 := R2.put (i := i) rp
  rw [set_getD es, List.set_set] at R3
  exact ⟨_, es, R3, ⟨fun _ _ q _ => .of q, fun b hb => .inl (by simp at hb; exact hb.1), fun _ h => h, fun _ h => .inl h, rfl⟩, rp⟩
theorem Rel.freezeD (R : Rel S Z env σ H) {i : Nat} {a : Addr} {xs : List (D × D)} (e : env[i]? = some (.ownd a xs)) :
    ∃ (Z' : Zs), σ[i]? = some (some (.ref a)) ∧ Rel S Z' (env.set i (.val (.dct xs))) σ H ∧ Tr Z H Z' H ∧ Rep S.G (vis Z'.O H) Z'.h (.ref a) (.dct xs) := by
  obtain ⟨vs, ds, es, h1, h2, h3, h4, h5⟩ := R.slots i _ e
  have R1 := R.drop1 (i := i) (v := some (.ref a))
  rw [set_getD es] at R1
  have no : NotOwned (env.set i .no) σ a := fun j x ej o s => by
    by_cases hj : i = j
    · subst hj
      rw [List.getElem?_set_self (List.getElem?_eq_some_iff.mp e).1] at ej; cases ej; cases o
    · rw [List.getElem?_set_ne hj] at ej
      exact hj (R.inj i j _ x a e ej rfl o es s)
  obtain ⟨R2, v2⟩ := R1.unhide no h3 h2 (R.entOut h3) fun hb => (R.res a hb).no i _ e rfl es
  have rp : Rep S.G (vis (Z.O.filter fun b => decide (b ≠ a)) H) Z.h (.ref a) (.dct xs) := by
    obtain ⟨hk, q1, q2, q3⟩ := h5
    exact .dK (vis_out (by simp) q1) q2 (v2.repL h4) q3
  have R3 := R2.put (i := i) rp
  rw [set_getD es, List.set_set] at R3
  exact ⟨_, es, R3, ⟨fun _ _ q _ => .of q, fun b hb => .inl (by simp at hb; exact hb.1), fun _ h => h, fun _ h => .inl h, rfl⟩, rp⟩
/-- a spare object is kept apart, and let go -/
theorem Rel.reserve (R : Rel S Z env σ H) {p : Addr} (sp : Spare S Z env σ p) : Rel S ⟨Z.O, Z.h, p :: Z.B⟩ env σ H :=
  ⟨R.oin, R.sub, R.hnd, R.hsub, R.frame, R.ehnd, R.nhnd, R.len, R.slots, R.inj, fun b hb => by
    rcases List.mem_cons.mp hb with rfl | hb
    · exact ⟨sp.ino, sp.nh, sp.ne, sp.no⟩
    · have q := R.res b hb
      exact ⟨q.ino, q.nh, q.ne, q.no⟩, R.tabs, R.osb⟩
theorem Rel.release (R : Rel S Z env σ H) {p : Addr} {B : List Addr} (e : Z.B = p :: B) : Rel S ⟨Z.O, Z.h, B⟩ env σ H ∧ Spare S ⟨Z.O, Z.h, B⟩ env σ p :=
  ⟨⟨R.oin, R.sub, R.hnd, R.hsub, R.frame, R.ehnd, R.nhnd, R.len, R.slots, R.inj, fun b hb => by
    have q := R.res b (by rw [e]; exact List.mem_cons_of_mem _ hb)
    exact ⟨q.ino, q.nh, q.ne, q.no⟩, R.tabs, R.osb⟩, by
    have q := R.res p (by rw [e]; exact List.mem_cons_self)
    exact ⟨q.ino, q.nh, q.ne, q.no⟩⟩
/-- a spare object is written -/
theorem Rel.poke (R : Rel S Z env σ H) {p : Addr} {o u : HO} (sp : Spare S Z env σ p) (eu : H p = some u) (pu : Pln u) : Rel S Z env σ (upd H p o) := by
  have hv : vis Z.O (upd H p o) = vis Z.O H := vis_upd_in sp.ino
  refine ⟨fun b hb => ?_, R.sub, fun b hb => ?_, R.hsub, fun b u q n => ?_, R.ehnd, R.nhnd, R.len, fun j z ej => ?_, R.inj, R.res, tabs_upd R.tabs eu pu, R.osb⟩
  · by_cases hba : b = p
    · rw [hba, upd_same]; simp
    · rw [upd_ne hba]; exact R.oin b hb
  · refine (R.hnd b hb).mono (R.hin b hb) (fun _ n _ => n) fun c u q hc => ?_
    rw [upd_ne]
    · exact q
    · rintro rfl
      rcases hc with z | z
      · exact sp.nh (by rw [z]; exact hb)
      · exact z sp.ino
  · obtain ⟨u', e1, e2⟩ := R.frame b u q n
    exact ⟨u', by rw [upd_ne (fun z => by rw [z, sp.ne] at q; cases q)]; exact e1, e2⟩
  · refine (R.slots j z ej).mono ⟨fun b u q => by rw [hv]; exact q, fun _ h => h⟩ fun c oc sc g1 g2 g3 => ⟨g1, g3, fun u q _ => ?_⟩
    rw [upd_ne]
    · exact q
    rintro rfl
    exact sp.no j z ej oc sc
/-- a comprehension's own slots -/
def wipeE (env : Env) : List Nat → Env
  | [] => env
  | v :: vs => (wipeE env vs).set v .no
def Sl.keep : Sl → Sl
  | .val d => .val d
  | _ => .no
def restE (env e2 : Env) : List Nat → Env
  | [] => e2
  | v :: vs => (restE env e2 vs).set v ((env[v]?.getD .no).keep)
theorem Rel.wipe (R : Rel S Z env σ H) : ∀ vs : List Nat, Rel S Z (wipeE env vs) (L2.wipe σ vs) H
  | [] => R
  | v :: vs => (R.wipe vs).drop1
def restS (σ s2 : L2.St) : List Nat → L2.St
  | [] => s2
  | v :: vs => (restS σ s2 vs).set v (σ[v]?.getD none)
theorem restS_len (σ s2 : L2.St) : ∀ vs, (restS σ s2 vs).length = s2.length
  | [] => rfl
  | v :: vs => by unfold restS; rw [List.length_set, restS_len σ s2 vs]
theorem restS_get {σ s2 : L2.St} (hl : s2.length = σ.length) (j : Nat) : ∀ vs, (restS σ s2 vs)[j]? = if j ∈ vs then σ[j]? else s2[j]?
  | [] => by simp [restS]
  | v :: vs => by
    unfold restS
    by_cases hj : v = j
    · subst hj
      rw [if_pos List.mem_cons_self]
      by_cases hv : v < σ.length
      · rw [List.getElem?_set_self (by rw [restS_len, hl]; exact hv), List.getElem?_eq_getElem hv]; rfl
      · rw [List.getElem?_eq_none (by rw [List.length_set, restS_len]; omega), List.getElem?_eq_none (by omega)]
    · rw [List.getElem?_set_ne hj, restS_get hl j vs]
      have : j ∈ v :: vs ↔ j ∈ vs := by simp [Ne.symm hj]
      simp [this]
theorem restS_wipe (σ : L2.St) (vs : List Nat) : restS σ (L2.wipe σ vs) vs = σ := by
  apply List.ext_getElem?
  intro j
  rw [restS_get (wipe_length σ vs) j vs]
  split
  · rfl
  · rename_i h; exact wipe_out h
theorem Rel.rest (R : Rel S Z env σ H) {e2 : Env} {s2 : L2.St} (v : Vle Z H Z2 H2) (R2 : Rel S Z2 e2 s2 H2) : ∀ vs : List Nat, Rel S Z2 (restE env e2 vs) (restS σ s2 vs) H2
  | [] => R2
  | i :: vs => by
    have R3 := Rel.rest R v R2 vs
    unfold restE restS
    cases e : env[i]? with
    | none => exact R3.drop1
    | some x =>
      cases x with
      | val d =>
        obtain ⟨w, es, r⟩ := R.slots i _ e
        rw [es]
        exact R3.put (v.rep r)
      | no => exact R3.drop1
      | pin _ _ _ => exact R3.drop1
      | own _ _ => exact R3.drop1
      | ownd _ _ => exact R3.drop1
/-- back from a comprehension's block -/
theorem Rel.back (R : Rel S Z env σ H) {e2 : Env} {vs : List Nat} (v : Vle Z H Z2 H2) (R2 : Rel S Z2 e2 (L2.wipe σ vs) H2) : Rel S Z2 (restE env e2 vs) σ H2 := by
  have := R.rest v R2 vs
  rw [restS_wipe] at this
  exact this
end
end DV

set_option Elab.async false
set_option linter.all false
set_option maxRecDepth 100000
/-! DV2: the judgements over plain data, and the rules of expressions. -/
namespace DV
open PySem PySem.Spec PyProof.Rows L2

abbrev Ex := Er → Env → Prop
abbrev Tm := Env → (D → Env → Prop) → Ex → Prop
abbrev Tt := Env → (Bool → Env → Prop) → Ex → Prop
abbrev TmL := Env → (List D → Env → Prop) → Ex → Prop
abbrev Tf := Env → (Sl → Env → Prop) → Ex → Prop

def ErrOk (G : Pg) (Z : Zs) (H : Hp) (cls : Value) (dd : Option Addr) (er : Er) : Prop :=
  ∃ C, G.ET er.1 = some C ∧ cls = .ref C ∧ ErD G (vis Z.O H) Z.h dd er.2
/-- what an expression's errors come to -/
def ExOk (S : Ent) (Z : Zs) (H : Hp) (σ : L2.St) (E : Ex) (W : WX) : Prop :=
  ∀ Z' env' cls dd er H', Rel S Z' env' σ H' → Tr Z H Z' H' → ErrOk S.G Z' H' cls dd er → E er env' → W cls dd σ H'
theorem ExOk.on {S : Ent} {Z Z' : Zs} {H H' : Hp} {σ : L2.St} {E : Ex} {W : WX} {env : Env} (h : ExOk S Z H σ E W) (R : Rel S Z' env σ H') (t : Tr Z H Z' H') : ExOk S Z' H' σ E W :=
  fun Z2 env2 cls dd er H2 R2 t2 e q => h Z2 env2 cls dd er H2 R2 (Tr.trans R t t2) e q
/-- a statement's -/
def ExV (S : Ent) (Z : Zs) (H : Hp) (σ : L2.St) (E : Ex) (W : WX) : Prop :=
  ∀ Z' env' cls dd er H', Rel S Z' env' σ H' → Vle Z H Z' H' → ErrOk S.G Z' H' cls dd er → E er env' → W cls dd σ H'
theorem ExV.on {S : Ent} {Z Z' : Zs} {H H' : Hp} {σ : L2.St} {E : Ex} {W : WX} (h : ExV S Z H σ E W) (v : Vle Z H Z' H') : ExV S Z' H' σ E W :=
  fun Z2 env2 cls dd er H2 R2 v2 e q => h Z2 env2 cls dd er H2 R2 (v.trans v2) e q
theorem ExV.ok {S : Ent} {Z : Zs} {H : Hp} {σ : L2.St} {E : Ex} {W : WX} {env : Env} (h : ExV S Z H σ E W) (R : Rel S Z env σ H) : ExOk S Z H σ E W :=
  fun Z2 env2 cls dd er H2 R2 t2 e q => h Z2 env2 cls dd er H2 R2 (R.vle t2) e q

/-- a result that may be stored; one that may only be looked at (an own list too) -/
abbrev RT := Pg → Zs → Hp → V → D → Prop
def RS : RT := fun G Z H v d => Rep G (vis Z.O H) Z.h v d
def RB : RT := fun G Z H v d => Rep G (vis Z.O H) Z.h v d ∨
  (∃ a vs xs, v = .ref a ∧ d = .lst xs ∧ Z.h ≠ some a ∧ H a = some (.lst vs) ∧ RepL G (vis Z.O H) Z.h vs xs) ∨
  (∃ a vs ds kvs, v = .ref a ∧ d = .dct kvs ∧ Z.h ≠ some a ∧ RepL G (vis Z.O H) Z.h vs ds ∧
      ((∃ hk : List (Key × V), H a = some (.dK hk) ∧ vs = hk.map (·.2) ∧ kvs = (hk.map fun p => dKey p.1).zip ds) ∨
       (∃ hk : List (List Key × V), H a = some (.dT hk) ∧ vs = hk.map (·.2) ∧ kvs = (hk.map fun p => tKey p.1).zip ds)))
theorem RB.of {G : Pg} {Z : Zs} {H : Hp} {v : V} {d : D} (h : RS G Z H v d) : RB G Z H v d := .inl h
section
variable {S : Ent} {Z Z' : Zs} {env : Env} {σ : L2.St} {H H' : Hp} {G : Pg} {v : V} {d : D}
theorem RS.on (h : RS G Z H v d) (R : Rel S Z env σ H) (t : Tr Z H Z' H') : RS G Z' H' v d := (R.vle t).rep h
theorem RB.on (h : RB G Z H v d) (R : Rel S Z env σ H) (t : Tr Z H Z' H') : RB G Z' H' v d := by
  have ne : ∀ a o, Z.h ≠ some a → H a = some o → Z'.h ≠ some a := fun a o n e z => by
    rcases t.hz a z with q | q
    · exact n q
    · rw [e] at q; cases q
  rcases h with h | ⟨a, vs, xs, rfl, rfl, n, e, r⟩ | ⟨a, vs, ds, kvs, rfl, rfl, n, r, ⟨hk, e, q⟩ | ⟨hk, e, q⟩⟩
  · exact .inl ((R.vle t).rep h)
  · exact .inr (.inl ⟨a, vs, xs, rfl, rfl, ne a _ n e, (t.keep _ _ e n).lst, (R.vle t).repL r⟩)
  · exact .inr (.inr ⟨a, vs, ds, kvs, rfl, rfl, ne a _ n e, (R.vle t).repL r, .inl ⟨hk, (t.keep _ _ e n).dK, q⟩⟩)
  · exact .inr (.inr ⟨a, vs, ds, kvs, rfl, rfl, ne a _ n e, (R.vle t).repL r, .inr ⟨hk, (t.keep _ _ e n).dT, q⟩⟩)
theorem RB.lst {xs : List D} (h : RB G Z H v (.lst xs)) : ∃ a vs, v = .ref a ∧ H a = some (.lst vs) ∧ RepL G (vis Z.O H) Z.h vs xs := by
  rcases h with h | ⟨a, vs, ys, rfl, e, n, h, r⟩ | ⟨a, vs, ds, kvs, rfl, e, _⟩
  · cases h with
    | lst e r => exact ⟨_, _, rfl, (vis_some e).2, r⟩
  · cases e; exact ⟨a, vs, rfl, h, r⟩
  · cases e
theorem sqT_vis {K : PySem.W.Frag} {O : List Addr} {a : Addr} {xs : List V} (h : SqT K (vis O H) a xs) : SqT K H a xs := sqT_same (fun _ _ e => (vis_some e).2) h
theorem RB.tup {xs : List D} (h : RB G Z H v (.tup xs)) : ∃ a vs, v = .ref a ∧ SqT G.K H a vs ∧ RepL G (vis Z.O H) Z.h vs xs := by
  rcases h with h | ⟨a, vs, ys, rfl, e, n, h, r⟩ | ⟨a, vs, ds, kvs, rfl, e, _⟩
  · cases h with
    | tup e r => exact ⟨_, _, rfl, sqT_vis e, r⟩
  · cases e
  · cases e
theorem RB.int {i : Int} (h : RB G Z H v (.int i)) : v = .int i := by
  rcases h with h | ⟨a, vs, ys, rfl, e, n, h, r⟩ | ⟨a, vs, ds, kvs, rfl, e, _⟩
  · cases h; rfl
  · cases e
  · cases e
theorem RB.bl {i : Bool} (h : RB G Z H v (.bl i)) : v = .bl i := by
  rcases h with h | ⟨a, vs, ys, rfl, e, n, h, r⟩ | ⟨a, vs, ds, kvs, rfl, e, _⟩
  · cases h; rfl
  · cases e
  · cases e
theorem RB.str {i : Str} (h : RB G Z H v (.str i)) : v = .str i := by
  rcases h with h | ⟨a, vs, ys, rfl, e, n, h, r⟩ | ⟨a, vs, ds, kvs, rfl, e, _⟩
  · cases h; rfl
  · cases e
  · cases e
theorem RB.non (h : RB G Z H v .non) : v = .non := by
  rcases h with h | ⟨a, vs, ys, rfl, e, n, h, r⟩ | ⟨a, vs, ds, kvs, rfl, e, _⟩
  · cases h; rfl
  · cases e
  · cases e
end

/-- an expression's judgement: T tells, over plain slots, what it asks and gives -/
structure DX (S : Ent) (Rr : RT) (X : Cx) (e : Expr) (T : Tm) : Prop where
  run : ∀ W, Takes X W → ∃ t, PE X e t ∧ ∀ Z env σ H Q E Q', Rel S Z env σ H → T env Q E →
    (∀ Z' env' v d H', Rel S Z' env' σ H' → Tr Z H Z' H' → Rr S.G Z' H' v d → Q d env' → Q' v H') → ExOk S Z H σ E W → t σ H Q'
abbrev DE (S : Ent) := DX S RS
abbrev DB (S : Ent) := DX S RB
/-- a test's -/
structure DT (S : Ent) (X : Cx) (e : Expr) (T : Tt) : Prop where
  run : ∀ W, Takes X W → ∃ t, PT X e t ∧ ∀ Z env σ H Q E (Q' : Bool → Hp → Prop), Rel S Z env σ H → T env Q E →
    (∀ Z' env' b H', Rel S Z' env' σ H' → Tr Z H Z' H' → Q b env' → Q' b H') → ExOk S Z H σ E W → t σ H Q'
structure DW (S : Ent) (X : Cx) (e : Expr) (T : Tt) : Prop where
  run : ∀ W, Takes X W → ∃ t, PW X e t ∧ ∀ Z env σ H Q E (Q' : Bool → Hp → Prop), Rel S Z env σ H → T env Q E →
    (∀ Z' env' b H', Rel S Z' env' σ H' → Tr Z H Z' H' → Q b env' → Q' b H') → ExOk S Z H σ E W → t σ H Q'
/-- an argument list's -/
structure DA (S : Ent) (Rr : RT) (X : Cx) (es : List Expr) (T : TmL) : Prop where
  run : ∀ W, Takes X W → ∃ t, PA X es t ∧ ∀ Z env σ H Q E (Q' : List V → Hp → Prop), Rel S Z env σ H → T env Q E →
    (∀ Z' env' vs ds H', Rel S Z' env' σ H' → Tr Z H Z' H' → vs.length = ds.length → (∀ (i : Nat) v d, vs[i]? = some v → ds[i]? = some d → Rr S.G Z' H' v d) → Q ds env' → Q' vs H') → ExOk S Z H σ E W → t σ H Q'
/-- a new list's (a new dict's) -/
structure DF (S : Ent) (X : Cx) (e : Expr) (T : Tf) : Prop where
  run : ∀ W, Takes X W → ∃ t, PE X e t ∧ ∀ Z env σ H Q E Q', Rel S Z env σ H → T env Q E →
    (∀ Z' env' a x H', Rel S Z' env' σ H' → Tr Z H Z' H' → Spare S Z' env' σ a → a ∉ Z'.B → x.owns = true → OwnAt S Z' H' a x → Q x env' → Q' (.ref a) H') → ExOk S Z H σ E W → t σ H Q'

section
variable {S : Ent} {X : Cx}
theorem RepL.of_all {G : Pg} {H : Hp} {hh : Option Addr} : ∀ {vs : List V} {ds : List D}, vs.length = ds.length → (∀ (i : Nat) v d, vs[i]? = some v → ds[i]? = some d → Rep G H hh v d) → RepL G H hh vs ds
  | [], [], _, _ => .nil
  | [], _ :: _, h, _ => by cases h
  | _ :: _, [], h, _ => by cases h
  | v :: vs, d :: ds, h, q => .cons (q 0 v d rfl rfl) (RepL.of_all (Nat.succ.inj h) fun i v d e1 e2 => q (i + 1) v d e1 e2)
theorem DB.of {e : Expr} {T : Tm} (h : DE S X e T) : DB S X e T := ⟨fun W tk => by
  obtain ⟨t, p, q⟩ := h.run W tk
  exact ⟨t, p, fun Z env σ H Q E Q' R hT k x => q Z env σ H Q E Q' R hT (fun Z' env' v d H' R' t' r hq => k Z' env' v d H' R' t' (.inl r) hq) x⟩⟩

/-! ### names and constants -/
def wVal (i : Nat) : Tm := fun env Q _ => match env[i]? with
  | some (.val d) => Q d env
  | some (.own _ xs) => Q (.lst xs) (env.set i (.val (.lst xs)))
  | some (.ownd _ xs) => Q (.dct xs) (env.set i (.val (.dct xs)))
  | _ => False
/-- looked at -/
def wLook (i : Nat) : Tm := fun env Q _ => match env[i]? with
  | some (.val d) => Q d env
  | some (.own _ xs) => Q (.lst xs) env
  | some (.ownd _ xs) => Q (.dct xs) env
  | _ => False
def wC (d : D) : Tm := fun env Q _ => Q d env
theorem dx_var (i : Nat) {x : Str} {pos : Pos} (hN : X.N[i]? = some x := by rfl) (hv : Vis X.env.scope x := by first | exact Or.inl rfl | exact Or.inr (Or.inl rfl) | exact Or.inr (Or.inr rfl)) (hd : (x == ("__debug__" : Str)) = false := by decide)
    (hcd : (x == ("__classdict__" : Str)) = false := by decide) : DE S X (.Name x pos) (wVal i) := ⟨fun W tk => ⟨_, pe_var hN hv hd hcd, fun Z env σ H Q E Q' R hT k _ => by
  unfold wVal at hT
  split at hT
  · rename_i d e
    obtain ⟨v, es, r⟩ := R.slots i _ e
    exact ⟨v, es, k Z env v d H R .refl r hT⟩
  · rename_i a xs e
    obtain ⟨Z', es, R', t, r⟩ := R.freeze e
    exact ⟨.ref a, es, k Z' _ _ _ H R' t r hT⟩
  · rename_i a xs e
    obtain ⟨Z', es, R', t, r⟩ := R.freezeD e
    exact ⟨.ref a, es, k Z' _ _ _ H R' t r hT⟩
  · exact hT.elim⟩⟩
theorem db_var (i : Nat) {x : Str} {pos : Pos} (hN : X.N[i]? = some x := by rfl) (hv : Vis X.env.scope x := by first | exact Or.inl rfl | exact Or.inr (Or.inl rfl) | exact Or.inr (Or.inr rfl)) (hd : (x == ("__debug__" : Str)) = false := by decide)
    (hcd : (x == ("__classdict__" : Str)) = false := by decide) : DB S X (.Name x pos) (wLook i) := ⟨fun W tk => ⟨_, pe_var hN hv hd hcd, fun Z env σ H Q E Q' R hT k _ => by
  unfold wLook at hT
  split at hT
  · rename_i d e
    obtain ⟨v, es, r⟩ := R.slots i _ e
    exact ⟨v, es, k Z env v d H R .refl (.inl r) hT⟩
  · rename_i a xs e
    obtain ⟨vs, es, h1, h2, h3, h4, h5⟩ := R.slots i _ e
    exact ⟨.ref a, es, k Z env _ _ H R .refl (.inr (.inl ⟨a, vs, xs, rfl, rfl, h2, h4, h5⟩)) hT⟩
  · rename_i a xs e
    obtain ⟨vs, ds, es, h1, h2, h3, h4, h5⟩ := R.slots i _ e
    exact ⟨.ref a, es, k Z env _ _ H R .refl (.inr (.inr ⟨a, vs, ds, xs, rfl, rfl, h2, h4, .inl h5⟩)) hT⟩
  · exact hT.elim⟩⟩
theorem dx_const {e : Expr} {v : V} {d : D} (p : PE X e (tC v)) (r : ∀ G H hh, Rep G H hh v d) : DE S X e (wC d) := ⟨fun W tk => ⟨_, p, fun Z env σ H Q E Q' R hT k _ => k Z env v d H R .refl (r _ _ _) hT⟩⟩
theorem dx_int {i : Int} {j pos} : DE S X (.Constant (.int i) j pos) (wC (.int i)) := dx_const pe_int fun _ _ _ => .int i
theorem dx_bl {b j pos} : DE S X (.Constant (.bool b) j pos) (wC (.bl b)) := dx_const pe_bl fun _ _ _ => .bl b
theorem dx_non {j pos} : DE S X (.Constant .none j pos) (wC .non) := dx_const pe_non fun _ _ _ => .non
theorem dx_str {x j pos} : DE S X (.Constant (.str x) j pos) (wC (.str x)) := dx_const pe_str fun _ _ _ => .str x
/-- a module's constant: an int -/
theorem dx_globI {x : Str} {i : Int} {pos : Pos} (hm : ∃ t, X.mg x = some (.int i t)) (hg : Gl X x := by rfl) (hd : (x == ("__debug__" : Str)) = false := by decide) : DE S X (.Name x pos) (wC (.int i)) := by
  obtain ⟨t, hm⟩ := hm
  exact dx_const (pe_glob (v := .int i) hg hm ⟨t, rfl⟩ hd) fun _ _ _ => .int i

/-! ### two operands -/
def wOp (g : D → D → (D → Prop) → Prop) (Ta Tb : Tm) : Tm := fun env Q E => Ta env (fun x env1 => Tb env1 (fun y env2 => g x y fun z => Q z env2) E) E
/-- what a rule of two values gives, told over plain data: nothing but new objects comes -/
def Lift2 (G : Pg) (r : R2) (g : D → D → (D → Prop) → Prop) : Prop :=
  ∀ Z H x y dx dy (Qd : D → Prop) Q', RB G Z H x dx → RB G Z H y dy → g dx dy Qd → (∀ v d H', Same H H' → (∀ a ∈ Z.O, H a ≠ none) → RS G Z H' v d → Qd d → Q' v H') → (∀ a ∈ Z.O, H a ≠ none) → r x y H Q'
def OpD (S : Ent) (X : Cx) (f : Value → Value → Sem Value) (g : D → D → (D → Prop) → Prop) : Prop := ∃ r, OpR X f r ∧ Lift2 S.G r g
variable {a b c : Expr} {Ta Tb Tc : Tm} {pos : Pos}
theorem run2 {ta tb : TE} {r : R2} {g : D → D → (D → Prop) → Prop} (hl : Lift2 S.G r g) {W : WX}
    (ra : ∀ Z env σ H Q E Q', Rel S Z env σ H → Ta env Q E → (∀ Z' env' v d H', Rel S Z' env' σ H' → Tr Z H Z' H' → RB S.G Z' H' v d → Q d env' → Q' v H') → ExOk S Z H σ E W → ta σ H Q')
    (rb : ∀ Z env σ H Q E Q', Rel S Z env σ H → Tb env Q E → (∀ Z' env' v d H', Rel S Z' env' σ H' → Tr Z H Z' H' → RB S.G Z' H' v d → Q d env' → Q' v H') → ExOk S Z H σ E W → tb σ H Q')
    {Z : Zs} {env : Env} {σ : L2.St} {H : Hp} {Q : D → Env → Prop} {E : Ex} {Q' : VK} (R : Rel S Z env σ H) (hT : wOp g Ta Tb env Q E)
    (k : ∀ Z' env' v d H', Rel S Z' env' σ H' → Tr Z H Z' H' → RS S.G Z' H' v d → Q d env' → Q' v H') (x : ExOk S Z H σ E W) : tOp r ta tb σ H Q' := by
  refine ra Z env σ H _ E _ R hT (fun Z1 env1 v1 d1 H1 R1 t1 r1 h1 => ?_) x
  refine rb Z1 env1 σ H1 _ E _ R1 h1 (fun Z2 env2 v2 d2 H2 R2 t2 r2 h2 => ?_) (x.on R1 t1)
  have t12 := Tr.trans R1 t1 t2
  exact hl Z2 H2 v1 v2 d1 d2 _ _ (r1.on R1 t2) r2 h2 (fun v d H3 sm _ r3 q => k Z2 env2 v d H3 (R2.grow sm) (Tr.trans R2 t12 (.alloc sm)) r3 q) R2.oin
theorem dx_op {op : Operator} {g : D → D → (D → Prop) → Prop} (ho : OpD S X (binaryOp op) g) (ha : DB S X a Ta) (hb : DB S X b Tb) : DE S X (.BinOp a op b pos) (wOp g Ta Tb) := ⟨fun W tk => by
  obtain ⟨r, o, hl⟩ := ho
  obtain ⟨ta, pa, ra⟩ := ha.run W tk
  obtain ⟨tb, pb, rb⟩ := hb.run W tk
  exact ⟨_, pe_op o pa pb, fun Z env σ H Q E Q' R hT k x => run2 hl ra rb R hT k x⟩⟩
theorem dx_cmp {op : CmpOp} {g : D → D → (D → Prop) → Prop} (ho : OpD S X (compareOp op) g) (ha : DB S X a Ta) (hb : DB S X b Tb) (hm : behindInMarks op b = false) : DE S X (.Compare a [op] [b] pos) (wOp g Ta Tb) := ⟨fun W tk => by
  obtain ⟨r, o, hl⟩ := ho
  obtain ⟨ta, pa, ra⟩ := ha.run W tk
  obtain ⟨tb, pb, rb⟩ := hb.run W tk
  exact ⟨_, pe_cmpR o pa pb hm, fun Z env σ H Q E Q' R hT k x => run2 hl ra rb R hT k x⟩⟩
/-- an expression that gives a flag, as a test -/
def wTst (T : Tm) : Tt := fun env Q E => T env (fun d env1 => ∃ k, d = .bl k ∧ Q k env1) E
theorem dt_cmp {op : CmpOp} {g : D → D → (D → Prop) → Prop} (ho : OpD S X (compareOp op) g) (ha : DB S X a Ta) (hb : DB S X b Tb) (hm : behindInMarks op b = false) : DT S X (.Compare a [op] [b] pos) (wTst (wOp g Ta Tb)) := ⟨fun W tk => by
  obtain ⟨r, o, hl⟩ := ho
  obtain ⟨ta, pa, ra⟩ := ha.run W tk
  obtain ⟨tb, pb, rb⟩ := hb.run W tk
  refine ⟨_, pt_cmpR o pa pb hm, fun Z env σ H Q E Q' R hT k x => ?_⟩
  refine run2 hl ra rb R hT (fun Z' env' v d H' R' t r hq => ?_) x
  obtain ⟨kk, rfl, hq⟩ := hq
  exact ⟨kk, RB.bl (.inl r), k Z' env' kk H' R' t hq⟩⟩
theorem dt_val {e : Expr} {T : Tm} (h : DE S X e T) (he : ∀ whole, isTrue e X.env whole = (do let v ← whole; standAt e.pos; holding [v] (truthy v)) := by intro _; rfl) : DT S X e (wTst T) := ⟨fun W tk => by
  obtain ⟨t, p, q⟩ := h.run W tk
  refine ⟨_, pt_val p he, fun Z env σ H Q E Q' R hT k x => ?_⟩
  refine q Z env σ H _ E _ R hT (fun Z' env' v d H' R' t r hq => ?_) x
  obtain ⟨kk, rfl, hq⟩ := hq
  exact ⟨kk, RB.bl (.inl r), k Z' env' kk H' R' t hq⟩⟩
/-- a < b < c -/
def wChain (g g' : D → D → (D → Prop) → Prop) (Ta Tb Tc : Tm) : Tm := fun env Q E => Ta env (fun x env1 => Tb env1 (fun y env2 => g x y fun z => ∃ k, z = .bl k ∧ if k = true then Tc env2 (fun u env3 => g' y u fun z => Q z env3) E else Q (.bl false) env2) E) E
theorem run3 {ta tb tc : TE} {r r' : R2} {g g' : D → D → (D → Prop) → Prop} (hl : Lift2 S.G r g) (hl' : Lift2 S.G r' g') {W : WX}
    (ra : ∀ Z env σ H Q E Q', Rel S Z env σ H → Ta env Q E → (∀ Z' env' v d H', Rel S Z' env' σ H' → Tr Z H Z' H' → RB S.G Z' H' v d → Q d env' → Q' v H') → ExOk S Z H σ E W → ta σ H Q')
    (rb : ∀ Z env σ H Q E Q', Rel S Z env σ H → Tb env Q E → (∀ Z' env' v d H', Rel S Z' env' σ H' → Tr Z H Z' H' → RB S.G Z' H' v d → Q d env' → Q' v H') → ExOk S Z H σ E W → tb σ H Q')
    (rc : ∀ Z env σ H Q E Q', Rel S Z env σ H → Tc env Q E → (∀ Z' env' v d H', Rel S Z' env' σ H' → Tr Z H Z' H' → RB S.G Z' H' v d → Q d env' → Q' v H') → ExOk S Z H σ E W → tc σ H Q')
    {Z : Zs} {env : Env} {σ : L2.St} {H : Hp} {Q : D → Env → Prop} {E : Ex} {Q' : VK} (R : Rel S Z env σ H) (hT : wChain g g' Ta Tb Tc env Q E)
    (k : ∀ Z' env' v d H', Rel S Z' env' σ H' → Tr Z H Z' H' → RS S.G Z' H' v d → Q d env' → Q' v H') (x : ExOk S Z H σ E W) : tChain r r' ta tb tc σ H Q' := by
  refine ra Z env σ H _ E _ R hT (fun Z1 env1 v1 d1 H1 R1 t1 r1 h1 => ?_) x
  refine rb Z1 env1 σ H1 _ E _ R1 h1 (fun Z2 env2 v2 d2 H2 R2 t2 r2 h2 => ?_) (x.on R1 t1)
  have t12 := Tr.trans R1 t1 t2
  refine hl Z2 H2 v1 v2 d1 d2 _ _ (r1.on R1 t2) r2 h2 (fun v d H3 sm oin r3 q => ?_) R2.oin
  have R3 := R2.grow sm
  have t123 := Tr.trans R2 t12 (.alloc sm)
  obtain ⟨kk, rfl, q⟩ := q
  refine ⟨kk, RB.bl (.inl r3), ?_⟩
  cases kk with
  | false => exact k Z2 env2 _ _ H3 R3 t123 (.bl false) q
  | true =>
    refine rc Z2 env2 σ H3 _ E _ R3 q (fun Z4 env4 v4 d4 H4 R4 t4 r4 h4 => ?_) (x.on R3 t123)
    have t4' := Tr.trans R3 t123 t4
    exact hl' Z4 H4 v2 v4 d2 d4 _ _ ((r2.on R2 (.alloc sm)).on R3 t4) r4 h4 (fun v d H5 sm _ r5 q => k Z4 env4 v d H5 (R4.grow sm) (Tr.trans R4 t4' (.alloc sm)) r5 q) R4.oin
theorem dx_chain {op op' : CmpOp} {g g' : D → D → (D → Prop) → Prop} (ho : OpD S X (compareOp op) g) (ho' : OpD S X (compareOp op') g') (ha : DB S X a Ta) (hb : DB S X b Tb) (hc : DB S X c Tc)
    (hm : lastMarks [op, op'] [b, c] = false := by with_unfolding_all rfl) : DE S X (.Compare a [op, op'] [b, c] pos) (wChain g g' Ta Tb Tc) := ⟨fun W tk => by
  obtain ⟨r, o, hl⟩ := ho
  obtain ⟨r', o', hl'⟩ := ho'
  obtain ⟨ta, pa, ra⟩ := ha.run W tk
  obtain ⟨tb, pb, rb⟩ := hb.run W tk
  obtain ⟨tc, pc, rc⟩ := hc.run W tk
  exact ⟨_, pe_chain o o' pa pb pc hm, fun Z env σ H Q E Q' R hT k x => run3 hl hl' ra rb rc R hT k x⟩⟩
theorem dt_chain {op op' : CmpOp} {g g' : D → D → (D → Prop) → Prop} (ho : OpD S X (compareOp op) g) (ho' : OpD S X (compareOp op') g') (ha : DB S X a Ta) (hb : DB S X b Tb) (hc : DB S X c Tc)
    (hm : lastMarks [op, op'] [b, c] = false := by with_unfolding_all rfl) : DT S X (.Compare a [op, op'] [b, c] pos) (wTst (wChain g g' Ta Tb Tc)) := ⟨fun W tk => by
  obtain ⟨r, o, hl⟩ := ho
  obtain ⟨r', o', hl'⟩ := ho'
  obtain ⟨ta, pa, ra⟩ := ha.run W tk
  obtain ⟨tb, pb, rb⟩ := hb.run W tk
  obtain ⟨tc, pc, rc⟩ := hc.run W tk
  refine ⟨_, pt_chain o o' pa pb pc hm, fun Z env σ H Q E Q' R hT k x => ?_⟩
  refine run3 hl hl' ra rb rc R hT (fun Z' env' v d H' R' t r hq => ?_) x
  obtain ⟨kk, rfl, hq⟩ := hq
  exact ⟨kk, RB.bl (.inl r), k Z' env' kk H' R' t hq⟩⟩

/-! ### and, or, not, a if t else b -/
variable {A B : Tt} {rest : List Expr} {e : Expr}
def wAnd (A B : Tt) : Tt := fun env Q E => A env (fun k env1 => if k = true then B env1 Q E else Q false env1) E
def wOr (A B : Tt) : Tt := fun env Q E => A env (fun k env1 => if k = true then Q true env1 else B env1 Q E) E
def wNot (A : Tt) : Tt := fun env Q E => A env (fun k env1 => Q (!k) env1) E
theorem DW.dt (h : DW S X e A) : DT S X e A := ⟨fun W tk => by
  obtain ⟨t, p, q⟩ := h.run W tk
  exact ⟨t, p.pt, q⟩⟩
theorem dw_and1 (h : DT S X a A) : DW S X (.BoolOp .And [a] pos) A := ⟨fun W tk => by
  obtain ⟨t, p, q⟩ := h.run W tk
  exact ⟨t, pw_and1 p, q⟩⟩
theorem dw_or1 (h : DT S X a A) : DW S X (.BoolOp .Or [a] pos) A := ⟨fun W tk => by
  obtain ⟨t, p, q⟩ := h.run W tk
  exact ⟨t, pw_or1 p, q⟩⟩
theorem dw_and (ha : DT S X a A) (hb : DW S X (.BoolOp .And (b :: rest) pos) B) : DW S X (.BoolOp .And (a :: b :: rest) pos) (wAnd A B) := ⟨fun W tk => by
  obtain ⟨ta, pa, qa⟩ := ha.run W tk
  obtain ⟨tb, pb, qb⟩ := hb.run W tk
  refine ⟨_, pw_and pa pb, fun Z env σ H Q E Q' R hT k x => ?_⟩
  refine qa Z env σ H _ E _ R hT (fun Z1 env1 kk H1 R1 t1 h1 => ?_) x
  cases kk with
  | true =>
    rw [if_pos rfl] at h1 ⊢
    exact qb Z1 env1 σ H1 Q E Q' R1 h1 (fun Z2 env2 b H2 R2 t2 q => k Z2 env2 b H2 R2 (Tr.trans R1 t1 t2) q) (x.on R1 t1)
  | false =>
    rw [if_neg Bool.false_ne_true] at h1 ⊢
    exact k Z1 env1 false H1 R1 t1 h1⟩
theorem dw_or (ha : DT S X a A) (hb : DW S X (.BoolOp .Or (b :: rest) pos) B) : DW S X (.BoolOp .Or (a :: b :: rest) pos) (wOr A B) := ⟨fun W tk => by
  obtain ⟨ta, pa, qa⟩ := ha.run W tk
  obtain ⟨tb, pb, qb⟩ := hb.run W tk
  refine ⟨_, pw_or pa pb, fun Z env σ H Q E Q' R hT k x => ?_⟩
  refine qa Z env σ H _ E _ R hT (fun Z1 env1 kk H1 R1 t1 h1 => ?_) x
  cases kk with
  | true =>
    rw [if_pos rfl] at h1 ⊢
    exact k Z1 env1 true H1 R1 t1 h1
  | false =>
    rw [if_neg Bool.false_ne_true] at h1 ⊢
    exact qb Z1 env1 σ H1 Q E Q' R1 h1 (fun Z2 env2 b H2 R2 t2 q => k Z2 env2 b H2 R2 (Tr.trans R1 t1 t2) q) (x.on R1 t1)⟩
theorem dt_not (h : DT S X a A) : DT S X (.UnaryOp .Not a pos) (wNot A) := ⟨fun W tk => by
  obtain ⟨t, p, q⟩ := h.run W tk
  refine ⟨_, pt_not p, fun Z env σ H Q E Q' R hT k x => ?_⟩
  exact q Z env σ H _ E _ R hT (fun Z1 env1 kk H1 R1 t1 h1 => k Z1 env1 _ H1 R1 t1 h1) x⟩
/-- .. as values: flags -/
def wAndV (Ta Tb : Tm) : Tm := fun env Q E => Ta env (fun d env1 => ∃ k, d = .bl k ∧ if k = true then Tb env1 Q E else Q (.bl false) env1) E
def wOrV (Ta Tb : Tm) : Tm := fun env Q E => Ta env (fun d env1 => ∃ k, d = .bl k ∧ if k = true then Q (.bl true) env1 else Tb env1 Q E) E
def wNotV (Ta : Tm) : Tm := fun env Q E => Ta env (fun d env1 => ∃ k, d = .bl k ∧ Q (.bl (!k)) env1) E
theorem dx_one {op} {T : Tm} (h : DE S X a T) : DE S X (.BoolOp op [a] pos) T := ⟨fun W tk => by
  obtain ⟨t, p, q⟩ := h.run W tk
  exact ⟨t, pe_one p, q⟩⟩
theorem dx_and (ha : DE S X a Ta) (hb : DE S X (.BoolOp .And (b :: rest) pos) Tb) : DE S X (.BoolOp .And (a :: b :: rest) pos) (wAndV Ta Tb) := ⟨fun W tk => by
  obtain ⟨ta, pa, qa⟩ := ha.run W tk
  obtain ⟨tb, pb, qb⟩ := hb.run W tk
  refine ⟨_, pe_and pa pb, fun Z env σ H Q E Q' R hT k x => ?_⟩
  refine qa Z env σ H _ E _ R hT (fun Z1 env1 v d H1 R1 t1 r1 h1 => ?_) x
  obtain ⟨kk, rfl, h1⟩ := h1
  refine ⟨kk, RB.bl (.inl r1), ?_⟩
  cases kk with
  | true =>
    rw [if_pos rfl] at h1 ⊢
    exact qb Z1 env1 σ H1 Q E Q' R1 h1 (fun Z2 env2 v d H2 R2 t2 r q => k Z2 env2 v d H2 R2 (Tr.trans R1 t1 t2) r q) (x.on R1 t1)
  | false =>
    rw [if_neg Bool.false_ne_true] at h1 ⊢
    exact k Z1 env1 _ _ H1 R1 t1 (.bl false) h1⟩
theorem dx_or (ha : DE S X a Ta) (hb : DE S X (.BoolOp .Or (b :: rest) pos) Tb) : DE S X (.BoolOp .Or (a :: b :: rest) pos) (wOrV Ta Tb) := ⟨fun W tk => by
  obtain ⟨ta, pa, qa⟩ := ha.run W tk
  obtain ⟨tb, pb, qb⟩ := hb.run W tk
  refine ⟨_, pe_or pa pb, fun Z env σ H Q E Q' R hT k x => ?_⟩
  refine qa Z env σ H _ E _ R hT (fun Z1 env1 v d H1 R1 t1 r1 h1 => ?_) x
  obtain ⟨kk, rfl, h1⟩ := h1
  refine ⟨kk, RB.bl (.inl r1), ?_⟩
  cases kk with
  | true =>
    rw [if_pos rfl] at h1 ⊢
    exact k Z1 env1 _ _ H1 R1 t1 (.bl true) h1
  | false =>
    rw [if_neg Bool.false_ne_true] at h1 ⊢
    exact qb Z1 env1 σ H1 Q E Q' R1 h1 (fun Z2 env2 v d H2 R2 t2 r q => k Z2 env2 v d H2 R2 (Tr.trans R1 t1 t2) r q) (x.on R1 t1)⟩
theorem dx_not (ha : DE S X a Ta) : DE S X (.UnaryOp .Not a pos) (wNotV Ta) := ⟨fun W tk => by
  obtain ⟨ta, pa, qa⟩ := ha.run W tk
  refine ⟨_, pe_not pa, fun Z env σ H Q E Q' R hT k x => ?_⟩
  refine qa Z env σ H _ E _ R hT (fun Z1 env1 v d H1 R1 t1 r1 h1 => ?_) x
  obtain ⟨kk, rfl, h1⟩ := h1
  exact ⟨kk, RB.bl (.inl r1), k Z1 env1 _ _ H1 R1 t1 (.bl _) h1⟩⟩
def wIf (A : Tt) (Ta Tb : Tm) : Tm := fun env Q E => A env (fun k env1 => if k = true then Ta env1 Q E else Tb env1 Q E) E
theorem dx_if {Rr : RT} {c : Expr} (hc : DT S X c A) (ha : DX S Rr X a Ta) (hb : DX S Rr X b Tb) : DX S Rr X (.IfExp c a b pos) (wIf A Ta Tb) := ⟨fun W tk => by
  obtain ⟨tc, pc, qc⟩ := hc.run W tk
  obtain ⟨ta, pa, qa⟩ := ha.run W tk
  obtain ⟨tb, pb, qb⟩ := hb.run W tk
  refine ⟨_, pe_ifExp pc pa pb, fun Z env σ H Q E Q' R hT k x => ?_⟩
  refine qc Z env σ H _ E _ R hT (fun Z1 env1 kk H1 R1 t1 h1 => ?_) x
  cases kk with
  | true =>
    rw [if_pos rfl] at h1 ⊢
    exact qa Z1 env1 σ H1 Q E Q' R1 h1 (fun Z2 env2 v d H2 R2 t2 r q => k Z2 env2 v d H2 R2 (Tr.trans R1 t1 t2) r q) (x.on R1 t1)
  | false =>
    rw [if_neg Bool.false_ne_true] at h1 ⊢
    exact qb Z1 env1 σ H1 Q E Q' R1 h1 (fun Z2 env2 v d H2 R2 t2 r q => k Z2 env2 v d H2 R2 (Tr.trans R1 t1 t2) r q) (x.on R1 t1)⟩

/-! ### argument lists, displays -/
variable {es : List Expr} {Tr' : TmL}
def wNil : TmL := fun env Q _ => Q [] env
def wCons (Ta : Tm) (T : TmL) : TmL := fun env Q E => Ta env (fun d env1 => T env1 (fun ds env2 => Q (d :: ds) env2) E) E
theorem da_nil {Rr : RT} : DA S Rr X [] wNil := ⟨fun W tk => ⟨_, pa_nil, fun Z env σ H Q E Q' R hT k x => k Z env [] [] H R .refl rfl (fun i v d e _ => by simp at e) hT⟩⟩
theorem da_cons {Rr : RT} (ron : ∀ {Z env σ H Z' H' v d}, Rr S.G Z H v d → Rel S Z env σ H → Tr Z H Z' H' → Rr S.G Z' H' v d) (ha : DX S Rr X e Ta) (hr : DA S Rr X es Tr') (hs : starEach (e :: es) X.env = (false, eval e X.env) :: starEach es X.env := by rfl) :
    DA S Rr X (e :: es) (wCons Ta Tr') := ⟨fun W tk => by
  obtain ⟨ta, pa, qa⟩ := ha.run W tk
  obtain ⟨tr, pr, qr⟩ := hr.run W tk
  refine ⟨_, pa_cons pa pr hs, fun Z env σ H Q E Q' R hT k x => ?_⟩
  refine qa Z env σ H _ E _ R hT (fun Z1 env1 v d H1 R1 t1 r1 h1 => ?_) x
  refine qr Z1 env1 σ H1 _ E _ R1 h1 (fun Z2 env2 vs ds H2 R2 t2 hl r2 h2 => ?_) (x.on R1 t1)
  refine k Z2 env2 _ (d :: ds) H2 R2 (Tr.trans R1 t1 t2) (congrArg (· + 1) hl) (fun i v' d' e1 e2 => ?_) h2
  cases i with
  | zero => simp at e1 e2; subst e1 e2; exact ron r1 R1 t2
  | succ i => exact r2 i v' d' (by simpa using e1) (by simpa using e2)⟩
theorem da_cS (ha : DE S X e Ta) (hr : DA S RS X es Tr') (hs : starEach (e :: es) X.env = (false, eval e X.env) :: starEach es X.env := by rfl) : DA S RS X (e :: es) (wCons Ta Tr') :=
  da_cons (fun h R t => RS.on h R t) ha hr hs
theorem da_cB (ha : DB S X e Ta) (hr : DA S RB X es Tr') (hs : starEach (e :: es) X.env = (false, eval e X.env) :: starEach es X.env := by rfl) : DA S RB X (e :: es) (wCons Ta Tr') :=
  da_cons (fun h R t => RB.on h R t) ha hr hs
def big : Nat := 10000000
theorem big_line {n : Nat} (h : n ≤ big) : n ≤ sizeLine := by rw [sizeLine_eq]; unfold big at h; omega
section
variable {G : Pg} {Z : Zs} {H : Hp} {p : Addr} {vs : List V} {ds : List D}
theorem same_vis {O : List Addr} {H H' : Hp} (k : Same H H') : Same (vis O H) (vis O H') := fun b o e => by
  obtain ⟨h1, h2⟩ := vis_some e
  exact vis_out h1 (k b o h2) (vis_nt e)
theorem new_tup (oin : ∀ a ∈ Z.O, H a ≠ none) (hp : H p = none) (r : RepL G (vis Z.O H) Z.h vs ds) : RS G Z (upd H p (.tup vs)) (.ref p) (.tup ds) := by
  have hn : p ∉ Z.O := fun z => oin p z hp
  exact .tup (SqT.of (vis_out hn upd_same)) (r.mono (same_vis (same_upd hp)) fun _ h => h)
theorem new_lst (oin : ∀ a ∈ Z.O, H a ≠ none) (hp : H p = none) (r : RepL G (vis Z.O H) Z.h vs ds) : RS G Z (upd H p (.lst vs)) (.ref p) (.lst ds) := by
  have hn : p ∉ Z.O := fun z => oin p z hp
  exact .lst (vis_out hn upd_same) (r.mono (same_vis (same_upd hp)) fun _ h => h)
end
def wTup (T : TmL) : Tm := fun env Q E => T env (fun ds env1 => ds.length ≤ big ∧ Q (.tup ds) env1) E
theorem dx_tup {x1} (h : DA S RS X es Tr') : DE S X (.Tuple es x1 pos) (wTup Tr') := ⟨fun W tk => by
  obtain ⟨t, p, q⟩ := h.run W tk
  refine ⟨_, pe_tup p, fun Z env σ H Q E Q' R hT k x => ?_⟩
  refine q Z env σ H _ E _ R hT (fun Z1 env1 vs ds H1 R1 t1 hl r1 h1 => ?_) x
  obtain ⟨hz, h1⟩ := h1
  refine ⟨by rw [hl]; exact big_line hz, fun p hp => ?_⟩
  exact k Z1 env1 _ _ _ (R1.grow (same_upd hp)) (Tr.trans R1 t1 (.alloc (same_upd hp))) (new_tup R1.oin hp (.of_all hl r1)) h1⟩
def wLst (T : TmL) : Tf := fun env Q E => T env (fun ds env1 => ds.length ≤ big ∧ ∀ a, Q (.own a ds) env1) E
theorem df_lst (h : DA S RS X es Tr') : DF S X (.List es pos) (wLst Tr') := ⟨fun W tk => by
  obtain ⟨t, p, q⟩ := h.run W tk
  refine ⟨_, pe_lst p, fun Z env σ H Q E Q' R hT k x => ?_⟩
  refine q Z env σ H _ E _ R hT (fun Z1 env1 vs ds H1 R1 t1 hl r1 h1 => ?_) x
  obtain ⟨hz, h1⟩ := h1
  refine ⟨by rw [hl]; exact big_line hz, fun p hp => ?_⟩
  obtain ⟨R2, t2, no, h0, hh, hn⟩ := R1.hide (o := .lst vs) hp
  refine k _ env1 p (.own p ds) _ R2 (Tr.trans R1 t1 t2) ⟨List.mem_cons_self, hh, h0, no⟩ (fun hb => hn (R1.res p hb).ino) rfl ⟨rfl, vs, upd_same, ?_⟩ (h1 p)
  exact (R1.vle t2).repL (.of_all hl r1)⟩
/-- a new list as a value -/
def Sl.toD : Sl → D
  | .own _ xs => .lst xs
  | .ownd _ xs => .dct xs
  | .val d => d
  | .no => .non
  | .pin _ _ _ => .non
def wF (T : Tf) : Tm := fun env Q E => T env (fun x env1 => Q x.toD env1) E
theorem OwnAt.show {Z : Zs} {H : Hp} {p : Addr} {x : Sl} (h : OwnAt S Z H p x) {Z' : Zs} (v : Vle Z H Z' H) (hn : p ∉ Z'.O) : RS S.G Z' H (.ref p) x.toD := by
  cases x with
  | no => exact h.elim
  | pin _ _ _ => exact h.elim
  | val d => exact h.elim
  | own b xs =>
    obtain ⟨rfl, vs, q1, q2⟩ := h
    exact .lst (vis_out hn q1) (v.repL q2)
  | ownd b kvs =>
    obtain ⟨rfl, vs, ds, q1, hk, e1, e2, e3⟩ := h
    exact .dK (vis_out hn e1) e2 (v.repL q1) e3
theorem dx_f {T : Tf} (h : DF S X e T) : DE S X e (wF T) := ⟨fun W tk => by
  obtain ⟨t, p, q⟩ := h.run W tk
  refine ⟨_, p, fun Z env σ H Q E Q' R hT k x => ?_⟩
  refine q Z env σ H _ E _ R hT (fun Z1 env1 a y H1 R1 t1 sp nb hy oa h1 => ?_) x
  obtain ⟨R2, v2⟩ := R1.unhide sp.no sp.ne sp.nh (R1.entOut sp.ne) nb
  refine k _ env1 (.ref a) y.toD H1 R2 ?_ (oa.show v2 (by simp)) h1
  exact Tr.trans R1 t1 ⟨fun _ _ q _ => .of q, fun b hb => .inl (by simp at hb; exact hb.1), fun _ h => h, fun _ h => .inl h, rfl⟩⟩
end
end DV

set_option Elab.async false
set_option linter.all false
set_option maxRecDepth 100000
/-! DV3: operators over plain data. -/
namespace DV
open PySem PySem.Spec PyProof.Rows L2

abbrev G2 := D → D → (D → Prop) → Prop
section
variable {S : Ent} {X : Cx}
theorem Same.rfl' {H : Hp} : Same H H := fun _ _ e => e
/-! ### plus, minus, times, the rest -/
def gAdd : G2 := fun x y Q => match x, y with
  | .int i, .int j => Q (.int (i + j))
  | .str a, .str b => a.length + b.length ≤ big ∧ Q (.str (a ++ b))
  | .tup xs, .tup ys => xs.length + ys.length ≤ big ∧ Q (.tup (xs ++ ys))
  | .lst xs, .lst ys => xs.length + ys.length ≤ big ∧ Q (.lst (xs ++ ys))
  | _, _ => False
theorem od_add (hK : X.K = S.G.K) : OpD S X (binaryOp .Add) gAdd := by
  refine ⟨_, op_add.or (op_add_str.or (op_catA.or op_cat)), fun Z H x y dx dy Qd Q' rx ry hg k oin => ?_⟩
  unfold gAdd at hg
  split at hg
  · rw [rx.int, ry.int]
    exact .inl ⟨_, _, rfl, rfl, k _ _ _ Same.rfl' oin (.int _) hg⟩
  · rw [rx.str, ry.str]
    exact .inr (.inl ⟨_, _, rfl, rfl, big_line hg.1, k _ _ _ Same.rfl' oin (.str _) hg.2⟩)
  · rename_i xs ys
    obtain ⟨a, vs, rfl, ea, ra⟩ := rx.tup
    obtain ⟨b, ws, rfl, eb, rb⟩ := ry.tup
    rw [← hK] at ea eb
    refine .inr (.inr (.inl ⟨a, b, vs, ws, rfl, rfl, ea, eb, by rw [ra.length, rb.length]; exact big_line hg.1, fun e => ?_, fun n e => ?_, fun n1 n2 p hp => ?_⟩))
    · subst e
      cases ra
      have : RS S.G Z H (.ref b) (.tup ys) := by
        rcases ry with r | ⟨_, _, _, _, e, _⟩ | ⟨_, _, _, _, _, e, _⟩
        · exact r
        · cases e
        · cases e
      exact k _ _ _ Same.rfl' oin this hg.2
    · subst e
      cases rb
      have : RS S.G Z H (.ref a) (.tup xs) := by
        rcases rx with r | ⟨_, _, _, _, e, _⟩ | ⟨_, _, _, _, _, e, _⟩
        · exact r
        · cases e
        · cases e
      have e2 : xs ++ [] = xs := List.append_nil xs
      rw [e2] at hg
      exact k _ _ _ Same.rfl' oin this hg.2
    · exact k _ _ _ (same_upd hp) oin (new_tup oin hp (ra.append rb)) hg.2
  · obtain ⟨a, vs, rfl, ea, ra⟩ := rx.lst
    obtain ⟨b, ws, rfl, eb, rb⟩ := ry.lst
    exact .inr (.inr (.inr ⟨a, b, vs, ws, rfl, rfl, ea, eb, by rw [ra.length, rb.length]; exact big_line hg.1, fun p hp => k _ _ _ (same_upd hp) oin (new_lst oin hp (ra.append rb)) hg.2⟩))
  · exact hg.elim
def gSub : G2 := fun x y Q => match x, y with
  | .int i, .int j => Q (.int (i - j))
  | _, _ => False
theorem od_sub : OpD S X (binaryOp .Sub) gSub := by
  refine ⟨_, op_sub, fun Z H x y dx dy Qd Q' rx ry hg k oin => ?_⟩
  unfold gSub at hg
  split at hg
  · rw [rx.int, ry.int]
    exact ⟨_, _, rfl, rfl, k _ _ _ Same.rfl' oin (.int _) hg⟩
  · exact hg.elim
def gMul : G2 := fun x y Q => match x, y with
  | .int i, .int j => CMul i j ∧ Q (.int (i * j))
  | .lst xs, .int k => k < 1000000 ∧ xs.length * k.toNat ≤ big ∧ -1000000 < k ∧ Q (.lst (List.replicate k.toNat xs).flatten)
  | .tup xs, .int k => xs ≠ [] ∧ 2 ≤ k ∧ k ≤ 1000 ∧ xs.length ≤ 1000 ∧ Q (.tup (List.replicate k.toNat xs).flatten)
  | _, _ => False
theorem od_mul (hK : X.K = S.G.K) : OpD S X (binaryOp .Mult) gMul := by
  refine ⟨_, op_mul.or (op_rep.or op_repT), fun Z H x y dx dy Qd Q' rx ry hg k oin => ?_⟩
  unfold gMul at hg
  split at hg
  · rw [rx.int, ry.int]
    exact .inl ⟨_, _, rfl, rfl, hg.1, k _ _ _ Same.rfl' oin (.int _) hg.2⟩
  · obtain ⟨a, vs, rfl, ea, ra⟩ := rx.lst
    rw [ry.int]
    exact .inr (.inl ⟨a, _, vs, rfl, rfl, ea, by omega, by omega, by rw [ra.length]; exact big_line hg.2.1, fun p hp => k _ _ _ (same_upd hp) oin (new_lst oin hp (ra.rep _)) hg.2.2.2⟩)
  · obtain ⟨a, vs, rfl, ea, ra⟩ := rx.tup
    rw [ry.int]
    rw [← hK] at ea
    refine .inr (.inr ⟨a, _, vs, rfl, rfl, ea, fun e => ?_, hg.2.1, hg.2.2.1, by rw [ra.length]; exact hg.2.2.2.1, fun p hp => k _ _ _ (same_upd hp) oin (new_tup oin hp (ra.rep _)) hg.2.2.2.2⟩)
    subst e
    cases ra
    exact hg.1 rfl
  · exact hg.elim
/-- the divisor is above nought -/
def gMod : G2 := fun x y Q => match x, y with
  | .int i, .int j => 0 < j ∧ Q (.int (i % j))
  | _, _ => False
theorem od_mod : OpD S X (binaryOp .Mod) gMod := by
  refine ⟨_, op_mod, fun Z H x y dx dy Qd Q' rx ry hg k oin => ?_⟩
  unfold gMod at hg
  split at hg
  · rw [rx.int, ry.int]
    exact ⟨_, _, rfl, rfl, hg.1, k _ _ _ Same.rfl' oin (.int _) hg.2⟩
  · exact hg.elim
/-- the divisor is above nought, below 2 ^ 70 -/
def gDiv : G2 := fun x y Q => match x, y with
  | .int i, .int j => 0 < j ∧ j < 1180591620717411303424 ∧ Q (.int (i / j))
  | _, _ => False
theorem op_fdivW : OpR X (binaryOp .FloorDiv) (rI (fun _ j => 0 < j ∧ j < 1180591620717411303424) fun i j => .int (i / j)) := opI fun i j _ _ _ _ _ hc q => by
  have a : (0 : Int) < j := hc.1
  have b : j < 1180591620717411303424 := hc.2
  have c : j.natAbs ≠ 0 := by omega
  have d : j.natAbs < 2 ^ 70 := by omega
  have e : j.natAbs.log2 < 70 := (Nat.log2_lt c).mpr d
  exact floordiv_int (by omega) (by rw [Int.fdiv_eq_ediv_of_nonneg i (by omega)]; exact q) (.inl (PyProof.noPylong_of_log2 (by omega)))
theorem od_div : OpD S X (binaryOp .FloorDiv) gDiv := by
  refine ⟨_, op_fdivW, fun Z H x y dx dy Qd Q' rx ry hg k oin => ?_⟩
  unfold gDiv at hg
  split at hg
  · rw [rx.int, ry.int]
    exact ⟨_, _, rfl, rfl, ⟨hg.1, hg.2.1⟩, k _ _ _ Same.rfl' oin (.int _) hg.2.2⟩
  · exact hg.elim
def gPow : G2 := fun x y Q => match x, y with
  | .int i, .int j => CPow i j ∧ Q (.int (i ^ j.toNat))
  | _, _ => False
theorem od_pow : OpD S X (binaryOp .Pow) gPow := by
  refine ⟨_, op_pow, fun Z H x y dx dy Qd Q' rx ry hg k oin => ?_⟩
  unfold gPow at hg
  split at hg
  · rw [rx.int, ry.int]
    exact ⟨_, _, rfl, rfl, hg.1, k _ _ _ Same.rfl' oin (.int _) hg.2⟩
  · exact hg.elim
/-! ### order -/
def gCmp (p : Int → Int → Bool) : G2 := fun x y Q => match x, y with
  | .int i, .int j => Q (.bl (p i j))
  | _, _ => False
theorem od_int {f : Value → Value → Sem Value} {p : Int → Int → Bool} (o : OpR X f (rI0 fun i j => .bl (p i j))) : OpD S X f (gCmp p) := by
  refine ⟨_, o, fun Z H x y dx dy Qd Q' rx ry hg k oin => ?_⟩
  unfold gCmp at hg
  split at hg
  · rw [rx.int, ry.int]
    exact ⟨_, _, rfl, rfl, k _ _ _ Same.rfl' oin (.bl _) hg⟩
  · exact hg.elim
def gLt : G2 := gCmp fun i j => decide (i < j)
def gLe : G2 := gCmp fun i j => decide (i ≤ j)
def gGt : G2 := gCmp fun i j => decide (j < i)
def gGe : G2 := gCmp fun i j => decide (j ≤ i)
theorem od_lt : OpD S X (compareOp .Lt) gLt := od_int op_lt
theorem od_le : OpD S X (compareOp .LtE) gLe := od_int op_le
theorem od_gt : OpD S X (compareOp .Gt) gGt := od_int op_gt
theorem od_ge : OpD S X (compareOp .GtE) gGe := od_int op_ge
end

/-! ### equal data -/
mutual
def pd : D → PyData
  | .non => .none
  | .bl b => .bool b
  | .int i => .int i
  | .str s => .str s
  | .tup xs => .tuple (pdL xs)
  | .lst xs => .list (pdL xs)
  | .dct _ => .none
  | .obj _ _ => .none
  | .frz _ => .none
  | .fn _ => .none
  | .hand => .none
def pdL : List D → List PyData
  | [] => []
  | x :: xs => pd x :: pdL xs
end
mutual
/-- data that may be compared: at most n deep, no dicts, no objects -/
def okD : D → Nat → Bool
  | .non, _ => true
  | .bl _, _ => true
  | .int _, _ => true
  | .str s, _ => PyData.canLay0 (.str s)
  | .tup xs, n => match n with
    | 0 => false
    | n + 1 => okL xs n
  | .lst xs, n => match n with
    | 0 => false
    | n + 1 => okL xs n
  | .dct _, _ => false
  | .obj _ _, _ => false
  | .frz _, _ => false
  | .fn _, _ => false
  | .hand, _ => false
def okL : List D → Nat → Bool
  | [], _ => true
  | x :: xs, n => okD x n && okL xs n
end
mutual
theorem okD_pd : ∀ (d : D) (n : Nat), okD d n = true → (pd d).canLay0 = true ∧ (pd d).depth ≤ n
  | .non, _, _ => ⟨rfl, Nat.zero_le _⟩
  | .bl _, _, _ => ⟨rfl, Nat.zero_le _⟩
  | .int _, _, _ => ⟨rfl, Nat.zero_le _⟩
  | .str s, n, h => ⟨by rw [okD] at h; rw [pd]; exact h, by rw [pd, PyData.depth]; exact Nat.zero_le _⟩
  | .tup xs, 0, h => by rw [okD] at h; cases h
  | .tup xs, n + 1, h => by
    rw [okD] at h
    have := okL_pd xs n h
    rw [pd, PyData.canLay0, PyData.depth]
    exact ⟨this.1, Nat.succ_le_succ this.2⟩
  | .lst xs, 0, h => by rw [okD] at h; cases h
  | .lst xs, n + 1, h => by
    rw [okD] at h
    have := okL_pd xs n h
    rw [pd, PyData.canLay0, PyData.depth]
    exact ⟨this.1, Nat.succ_le_succ this.2⟩
  | .dct _, _, h => by rw [okD] at h; cases h
  | .obj _ _, _, h => by rw [okD] at h; cases h
  | .frz _, _, h => by rw [okD] at h; cases h
  | .fn _, _, h => by rw [okD] at h; cases h
  | .hand, _, h => by rw [okD] at h; cases h
theorem okL_pd : ∀ (ds : List D) (n : Nat), okL ds n = true → PyData.canLayAll0 (pdL ds) = true ∧ PyData.depthAll (pdL ds) ≤ n
  | [], _, _ => ⟨by rw [pdL, PyData.canLayAll0], by rw [pdL, PyData.depthAll]; exact Nat.zero_le _⟩
  | x :: xs, n, h => by
    rw [okL, Bool.and_eq_true] at h
    obtain ⟨h1, h2⟩ := okD_pd x n h.1
    obtain ⟨h3, h4⟩ := okL_pd xs n h.2
    rw [pdL, PyData.canLayAll0, PyData.depthAll]
    exact ⟨by rw [h1, h3]; rfl, Nat.max_le.mpr ⟨h2, h4⟩⟩
end
theorem okD_shaped {d : D} (h : okD d 60 = true) : SeqAt.shaped (pd d) = true := by
  obtain ⟨h1, h2⟩ := okD_pd d 60 h
  unfold SeqAt.shaped
  rw [h1, decide_eq_true (by omega)]; rfl
mutual
theorem Rep.dp {G : Pg} {H : Hp} {hh : Option Addr} {O : List Addr} : ∀ {v : V} {d : D} (n : Nat), Rep G (vis O H) hh v d → okD d n = true → Dp G.K H v (pd d)
  | _, _, _, .non, _ => by rw [pd]; exact .non
  | _, _, _, .bl b, _ => by rw [pd]; exact .bl b
  | _, _, _, .int i, _ => by rw [pd]; exact .int i
  | _, _, _, .str s, _ => by rw [pd]; exact .str s
  | _, _, 0, .tup e r, h => by rw [okD] at h; cases h
  | _, _, n + 1, .tup e r, h => by
    rw [okD] at h
    rw [pd]
    exact .tup (sqT_vis e) (RepL.dp n r h)
  | _, _, 0, .lst e r, h => by rw [okD] at h; cases h
  | _, _, n + 1, .lst e r, h => by
    rw [okD] at h
    rw [pd]
    exact .lst (SqL.of (vis_some e).2) (RepL.dp n r h)
  | _, _, _, .dK _ _ _ _, h => by rw [okD] at h; cases h
  | _, _, _, .dT _ _ _ _, h => by rw [okD] at h; cases h
  | _, _, _, .obj _ _ _ _ _, h => by rw [okD] at h; cases h
  | _, _, _, .frz _ _, h => by rw [okD] at h; cases h
  | _, _, _, .fn _, h => by rw [okD] at h; cases h
  | _, _, _, .hand _, h => by rw [okD] at h; cases h
theorem RepL.dp {G : Pg} {H : Hp} {hh : Option Addr} {O : List Addr} : ∀ {vs : List V} {ds : List D} (n : Nat), RepL G (vis O H) hh vs ds → okL ds n = true → DpAll G.K H vs (pdL ds)
  | _, _, _, .nil, _ => by rw [pdL]; exact .nil
  | _, _, n, .cons r rs, h => by
    rw [okL, Bool.and_eq_true] at h
    rw [pdL]
    exact .cons (Rep.dp n r h.1) (RepL.dp n rs h.2)
end
theorem RB.dp {G : Pg} {Z : Zs} {H : Hp} {v : V} {d : D} (h : RB G Z H v d) (o : okD d 60 = true) : Dp G.K H v (pd d) := by
  rcases h with h | ⟨a, vs, xs, rfl, rfl, n, e, r⟩ | ⟨a, vs, ds, kvs, rfl, rfl, _⟩
  · exact Rep.dp _ h o
  · rw [okD] at o
    rw [pd]
    exact .lst (SqL.of e) (RepL.dp _ r o)
  · rw [okD] at o; cases o
def eqD (x y : D) : Bool := (pd x).eqv (pd y)
def eqL (x y : List D) : Bool := PyData.eqvAll (pdL x) (pdL y)
section
variable {S : Ent} {X : Cx}
def gEq : G2 := fun x y Q => okD x 60 = true ∧ okD y 60 = true ∧ Q (.bl (eqD x y))
def gNe : G2 := fun x y Q => okD x 60 = true ∧ okD y 60 = true ∧ Q (.bl (!eqD x y))
theorem od_eq (hK : X.K = S.G.K) (hu : X.A.units + 64 < cLine) : OpD S X (compareOp .Eq) gEq := by
  refine ⟨_, op_eqD hu, fun Z H x y dx dy Qd Q' rx ry hg k oin => ?_⟩
  obtain ⟨h1, h2, h3⟩ := hg
  refine ⟨pd dx, pd dy, ?_, ?_, okD_shaped h1, okD_shaped h2, k _ _ _ Same.rfl' oin (.bl _) h3⟩
  · rw [hK]; exact rx.dp h1
  · rw [hK]; exact ry.dp h2
theorem od_ne (hK : X.K = S.G.K) (hu : X.A.units + 64 < cLine) : OpD S X (compareOp .NotEq) gNe := by
  refine ⟨_, op_neD hu, fun Z H x y dx dy Qd Q' rx ry hg k oin => ?_⟩
  obtain ⟨h1, h2, h3⟩ := hg
  refine ⟨pd dx, pd dy, ?_, ?_, okD_shaped h1, okD_shaped h2, k _ _ _ Same.rfl' oin (.bl _) h3⟩
  · rw [hK]; exact rx.dp h1
  · rw [hK]; exact ry.dp h2
/-! ### is -/
def isNon : D → Bool
  | .non => true
  | _ => false
/-- is None, is True, is False (the right one written) -/
def gIs : G2 := fun x y Q => match y with
  | .non => Q (.bl (isNon x))
  | .bl b => (match x with | .bl a => Q (.bl (decide (a = b))) | _ => False)
  | _ => False
def gIsN : G2 := fun x y Q => match y with
  | .non => Q (.bl (!isNon x))
  | .bl b => (match x with | .bl a => Q (.bl (!decide (a = b))) | _ => False)
  | _ => False
theorem is_non {G : Pg} {Z : Zs} {H : Hp} {x : V} {d : D} (r : RB G Z H x d) : decide (x = .non) = isNon d := by
  rcases r with r | ⟨a, vs, xs, rfl, rfl, _⟩ | ⟨a, vs, ds, kvs, rfl, rfl, _⟩
  · cases r <;> rfl
  · rfl
  · rfl
theorem od_is : OpD S X (compareOp .Is) gIs := by
  refine ⟨_, op_isN.or op_is_bl, fun Z H x y dx dy Qd Q' rx ry hg k oin => ?_⟩
  unfold gIs at hg
  split at hg
  · rw [ry.non]
    refine .inl ⟨rfl, ?_⟩
    rw [is_non rx]
    exact k _ _ _ Same.rfl' oin (.bl _) hg
  · split at hg
    · rw [rx.bl, ry.bl]
      exact .inr ⟨_, _, rfl, rfl, k _ _ _ Same.rfl' oin (.bl _) hg⟩
    · exact hg.elim
  · exact hg.elim
theorem od_isN : OpD S X (compareOp .IsNot) gIsN := by
  refine ⟨_, op_notN.or op_isnot_bl, fun Z H x y dx dy Qd Q' rx ry hg k oin => ?_⟩
  unfold gIsN at hg
  split at hg
  · rw [ry.non]
    refine .inl ⟨rfl, ?_⟩
    rw [is_non rx]
    exact k _ _ _ Same.rfl' oin (.bl _) hg
  · split at hg
    · rw [rx.bl, ry.bl]
      exact .inr ⟨_, _, rfl, rfl, k _ _ _ Same.rfl' oin (.bl _) hg⟩
    · exact hg.elim
  · exact hg.elim
/-! ### in -/
def inL (x : D) (ys : List D) : Bool := ys.any fun z => eqD z x
def gIn : G2 := fun x y Q => match y with
  | .lst ys => okD x 60 = true ∧ okD (.lst ys) 60 = true ∧ Q (.bl (inL x ys))
  | .tup ys => okD x 60 = true ∧ okD (.tup ys) 60 = true ∧ Q (.bl (inL x ys))
  | _ => False
def gNotIn : G2 := fun x y Q => match y with
  | .lst ys => okD x 60 = true ∧ okD (.lst ys) 60 = true ∧ Q (.bl (!inL x ys))
  | .tup ys => okD x 60 = true ∧ okD (.tup ys) 60 = true ∧ Q (.bl (!inL x ys))
  | _ => False
theorem op_inT (hu : X.A.units + 65 < cLine) : OpR X (compareOp .In) (fun x y H Q => ∃ d ds, Dp X.K H x d ∧ Dp X.K H y (.tuple ds) ∧ SeqAt.shaped d = true ∧ SeqAt.shaped (.tuple ds) = true ∧ Q (.bl (ds.any fun z => PyData.eqv z d)) H) := by
  rintro pz s σ H x y v u Q I rx ry ⟨d, ds, hd, he, sd, se, q⟩
  obtain ⟨_, r1⟩ := Dp.reads I d x v hd rx
  obtain ⟨_, r2⟩ := Dp.reads I (.tuple ds) y u he ry
  exact SeqAt.in_tuple_reads r2 r1 (SeqAt.canLay_of_shaped se) (SeqAt.canLay_of_shaped sd) (room_in_shaped sd hu) ⟨.bl _, H, I, rfl, q⟩
theorem op_notInT (hu : X.A.units + 65 < cLine) : OpR X (compareOp .NotIn) (fun x y H Q => ∃ d ds, Dp X.K H x d ∧ Dp X.K H y (.tuple ds) ∧ SeqAt.shaped d = true ∧ SeqAt.shaped (.tuple ds) = true ∧ Q (.bl (!ds.any fun z => PyData.eqv z d)) H) := by
  rintro pz s σ H x y v u Q I rx ry ⟨d, ds, hd, he, sd, se, q⟩
  obtain ⟨_, r1⟩ := Dp.reads I d x v hd rx
  obtain ⟨_, r2⟩ := Dp.reads I (.tuple ds) y u he ry
  exact SeqAt.notIn_tuple_reads r2 r1 (SeqAt.canLay_of_shaped se) (SeqAt.canLay_of_shaped sd) (room_in_shaped sd hu) ⟨.bl _, H, I, rfl, q⟩
theorem pdL_any (x : D) : ∀ ys : List D, ((pdL ys).any fun z => PyData.eqv z (pd x)) = inL x ys
  | [] => by rw [pdL]; rfl
  | y :: ys => by
    rw [pdL, List.any_cons, pdL_any x ys]
    rfl
theorem od_in (hK : X.K = S.G.K) (hu : X.A.units + 65 < cLine) : OpD S X (compareOp .In) gIn := by
  refine ⟨_, (op_inD hu).or (op_inT hu), fun Z H x y dx dy Qd Q' rx ry hg k oin => ?_⟩
  unfold gIn at hg
  split at hg
  · rename_i ys
    obtain ⟨h1, h2, h3⟩ := hg
    have e : pd (.lst ys) = .list (pdL ys) := by rw [pd]
    refine .inl ⟨pd dx, pdL ys, ?_, ?_, okD_shaped h1, ?_, ?_⟩
    · rw [hK]; exact rx.dp h1
    · rw [hK, ← e]; exact ry.dp h2
    · rw [← e]; exact okD_shaped h2
    · rw [pdL_any]; exact k _ _ _ Same.rfl' oin (.bl _) h3
  · rename_i ys
    obtain ⟨h1, h2, h3⟩ := hg
    have e : pd (.tup ys) = .tuple (pdL ys) := by rw [pd]
    refine .inr ⟨pd dx, pdL ys, ?_, ?_, okD_shaped h1, ?_, ?_⟩
    · rw [hK]; exact rx.dp h1
    · rw [hK, ← e]; exact ry.dp h2
    · rw [← e]; exact okD_shaped h2
    · rw [pdL_any]; exact k _ _ _ Same.rfl' oin (.bl _) h3
  · exact hg.elim
theorem od_notIn (hK : X.K = S.G.K) (hu : X.A.units + 65 < cLine) : OpD S X (compareOp .NotIn) gNotIn := by
  refine ⟨_, (op_notInD hu).or (op_notInT hu), fun Z H x y dx dy Qd Q' rx ry hg k oin => ?_⟩
  unfold gNotIn at hg
  split at hg
  · rename_i ys
    obtain ⟨h1, h2, h3⟩ := hg
    have e : pd (.lst ys) = .list (pdL ys) := by rw [pd]
    refine .inl ⟨pd dx, pdL ys, ?_, ?_, okD_shaped h1, ?_, ?_⟩
    · rw [hK]; exact rx.dp h1
    · rw [hK, ← e]; exact ry.dp h2
    · rw [← e]; exact okD_shaped h2
    · rw [pdL_any]; exact k _ _ _ Same.rfl' oin (.bl _) h3
  · rename_i ys
    obtain ⟨h1, h2, h3⟩ := hg
    have e : pd (.tup ys) = .tuple (pdL ys) := by rw [pd]
    refine .inr ⟨pd dx, pdL ys, ?_, ?_, okD_shaped h1, ?_, ?_⟩
    · rw [hK]; exact rx.dp h1
    · rw [hK, ← e]; exact ry.dp h2
    · rw [← e]; exact okD_shaped h2
    · rw [pdL_any]; exact k _ _ _ Same.rfl' oin (.bl _) h3
  · exact hg.elim
end
end DV

set_option Elab.async false
set_option linter.all false
set_option maxRecDepth 100000
/-! DV4: subscripts, built-in functions, calls of the program's own defs. -/
namespace DV
open PySem PySem.Spec PyProof.Rows L2

section
variable {S : Ent} {X : Cx} {a b c e : Expr} {Ta Tb Tc : Tm} {pos : Pos}
/-! ### o[i] -/
def gIx : G2 := fun x y Q => match x, y with
  | .tup xs, .int i => ∃ d, atI xs i = some d ∧ Q d
  | .lst xs, .int i => ∃ d, atI xs i = some d ∧ Q d
  | .str z, .int i => z.length ≤ big ∧ ∃ c, atI z.cps.toList i = some c ∧ Q (.str ⟨#[c]⟩)
  | _, _ => False
theorem RepL.atI {G : Pg} {H : Hp} {hh : Option Addr} {vs : List V} {ds : List D} {i : Int} {d : D} (r : RepL G H hh vs ds) (h : L2.atI ds i = some d) : ∃ v, L2.atI vs i = some v ∧ Rep G H hh v d := by
  unfold L2.atI at h ⊢
  rw [r.length]
  cases q : ixN ds.length i with
  | none => rw [q] at h; cases h
  | some j =>
    rw [q] at h
    exact r.get h
theorem lift_ix (hK : X.K = S.G.K) : Lift2 S.G (rIx X.K) gIx := by
  intro Z H x y dx dy Qd Q' rx ry hg k oin
  unfold gIx at hg
  split at hg
  · obtain ⟨d, h1, h2⟩ := hg
    obtain ⟨p, vs, rfl, ep, rp⟩ := rx.tup
    rw [ry.int]
    rw [← hK] at ep
    obtain ⟨v, hv, rv⟩ := rp.atI h1
    exact .inr (.inl ⟨p, vs, _, v, rfl, rfl, ep, hv, k _ _ _ Same.rfl' oin rv h2⟩)
  · obtain ⟨d, h1, h2⟩ := hg
    obtain ⟨p, vs, rfl, ep, rp⟩ := rx.lst
    rw [ry.int]
    obtain ⟨v, hv, rv⟩ := rp.atI h1
    exact .inl ⟨p, vs, _, v, rfl, rfl, SqL.of ep, hv, k _ _ _ Same.rfl' oin rv h2⟩
  · obtain ⟨h0, c, h1, h2⟩ := hg
    rw [rx.str, ry.int]
    exact .inr (.inr ⟨_, _, c, rfl, rfl, big_line h0, h1, k _ _ _ Same.rfl' oin (.str _) h2⟩)
  · exact hg.elim
theorem dx_ix (hK : X.K = S.G.K) (ha : DB S X a Ta) (hb : DB S X b Tb) (hs : PlainIx b := by exact fun _ _ => rfl) : DE S X (.Subscript a b pos) (wOp gIx Ta Tb) := ⟨fun W tk => by
  obtain ⟨ta, pa, ra⟩ := ha.run W tk
  obtain ⟨tb, pb, rb⟩ := hb.run W tk
  exact ⟨_, pe_ix ix_seq pa pb hs, fun Z env σ H Q E Q' R hT k x => run2 (lift_ix hK) ra rb R hT k x⟩⟩
/-! ### o[i:j] -/
abbrev Tp := Env → (Option Int → Env → Prop) → Ex → Prop
structure DP (S : Ent) (X : Cx) (e : Option Expr) (T : Tp) : Prop where
  run : ∀ W, Takes X W → ∃ t, PO X e t ∧ ∀ Z env σ H Q E (Q' : Option Int → Hp → Prop), Rel S Z env σ H → T env Q E →
    (∀ Z' env' b H', Rel S Z' env' σ H' → Tr Z H Z' H' → Q b env' → Q' b H') → ExOk S Z H σ E W → t σ H Q'
def wNoP : Tp := fun env Q _ => Q none env
def wPart (T : Tm) : Tp := fun env Q E => T env (fun d env1 => match d with | .int i => Q (some i) env1 | _ => False) E
theorem dp_none : DP S X none wNoP := ⟨fun W tk => ⟨_, po_none, fun Z env σ H Q E Q' R hT k _ => k Z env none H R .refl hT⟩⟩
theorem dp_some (h : DB S X e Ta) : DP S X (some e) (wPart Ta) := ⟨fun W tk => by
  obtain ⟨t, p, q⟩ := h.run W tk
  refine ⟨_, po_some p, fun Z env σ H Q E Q' R hT k x => ?_⟩
  refine q Z env σ H _ E _ R hT (fun Z1 env1 v d H1 R1 t1 r1 h1 => ?_) x
  split at h1
  · exact ⟨_, r1.int, k Z1 env1 _ H1 R1 t1 h1⟩
  · exact h1.elim⟩
def cutD (xs : List D) (lo hi : Option Int) : List D := (xs.drop (HT.sIx xs.length 0 lo)).take (HT.sIx xs.length xs.length hi - HT.sIx xs.length 0 lo)
theorem RepL.cut {G : Pg} {H : Hp} {hh : Option Addr} {vs : List V} {ds : List D} (r : RepL G H hh vs ds) (lo hi : Option Int) : RepL G H hh (cutV vs lo hi) (cutD ds lo hi) := by
  unfold cutV cutD
  rw [r.length]
  exact (r.drop _).take _
def gSlc (x : D) (lo hi : Option Int) (Q : D → Prop) : Prop := match x with
  | .tup xs => Q (.tup (cutD xs lo hi))
  | .lst xs => Q (.lst (cutD xs lo hi))
  | .frz xs => Q (.lst (cutD xs lo hi))
  | _ => False
def wSlc (T : Tm) (Tl Th : Tp) : Tm := fun env Q E => T env (fun x env1 => Tl env1 (fun lo env2 => Th env2 (fun hi env3 => gSlc x lo hi fun d => Q d env3) E) E) E
theorem cutV_whole {α : Type} (xs : List V) (lo hi : Option Int) (h : HT.sIx xs.length 0 lo = 0 ∧ HT.sIx xs.length xs.length hi = xs.length) : cutV xs lo hi = xs := by
  unfold cutV
  rw [h.1, h.2]
  simp
theorem dx_slc {lo hi : Option Expr} {Tl Th : Tp} {p2 : Pos} (hK : X.K = S.G.K) (ha : DB S X a Ta) (hl : DP S X lo Tl) (hh : DP S X hi Th) : DE S X (.Subscript a (.Slice lo hi none p2) pos) (wSlc Ta Tl Th) := ⟨fun W tk => by
  obtain ⟨ta, pa, ra⟩ := ha.run W tk
  obtain ⟨tl, pl, rl⟩ := hl.run W tk
  obtain ⟨th, ph, rh⟩ := hh.run W tk
  refine ⟨_, pe_slice (sl_tupA.or sl_list) pa pl ph, fun Z env σ H Q E Q' R hT k x => ?_⟩
  refine ra Z env σ H _ E _ R hT (fun Z1 env1 v d H1 R1 t1 r1 h1 => ?_) x
  refine rl Z1 env1 σ H1 _ E _ R1 h1 (fun Z2 env2 lo H2 R2 t2 h2 => ?_) (x.on R1 t1)
  have t12 := Tr.trans R1 t1 t2
  refine rh Z2 env2 σ H2 _ E _ R2 h2 (fun Z3 env3 hi H3 R3 t3 h3 => ?_) (x.on R2 t12)
  have t13 := Tr.trans R2 t12 t3
  have r3 := (r1.on R1 t2).on R2 t3
  unfold gSlc at h3
  split at h3
  · rename_i xs
    obtain ⟨p, vs, rfl, ep, rp⟩ := r3.tup
    have ep' := ep
    rw [← hK] at ep
    refine .inl ⟨p, vs, rfl, ep, fun hw => ?_, fun _ q hq => ?_⟩
    · refine k Z3 env3 _ _ H3 R3 t13 ?_ h3
      have r0 : RS S.G Z3 H3 (.ref p) (.tup xs) := by
        rcases r3 with r | ⟨_, _, _, _, e, _⟩ | ⟨_, _, _, _, _, e, _⟩
        · exact r
        · cases e
        · cases e
      have e2 : cutD xs lo hi = xs := by
        unfold cutD
        rw [← rp.length, hw.1, hw.2, rp.length]
        simp
      rw [e2]
      exact r0
    · exact k Z3 env3 _ _ _ (R3.grow (same_upd hq)) (Tr.trans R3 t13 (.alloc (same_upd hq))) (new_tup R3.oin hq (rp.cut lo hi)) h3
  · obtain ⟨p, vs, rfl, ep, rp⟩ := r3.lst
    exact .inr ⟨p, vs, rfl, SqL.of ep, fun q hq => k Z3 env3 _ _ _ (R3.grow (same_upd hq)) (Tr.trans R3 t13 (.alloc (same_upd hq))) (new_lst R3.oin hq (rp.cut lo hi)) h3⟩
  · rcases r3 with r | ⟨_, _, _, _, e, _⟩ | ⟨_, _, _, _, _, e, _⟩
    · cases r with
      | frz ep rp =>
        refine .inr ⟨_, _, rfl, ?_, fun q hq => k Z3 env3 _ _ _ (R3.grow (same_upd hq)) (Tr.trans R3 t13 (.alloc (same_upd hq))) (new_lst R3.oin hq (rp.cut lo hi)) h3⟩
        rw [hK]
        exact Same.seq (fun b o e => (vis_some e).2) ep
    · cases e
    · cases e
  · exact h3.elim⟩
/-! ### built-in functions -/
abbrev GL := List D → (D → Prop) → Prop
def LiftC (G : Pg) (r : List V → Hp → VK → Prop) (g : GL) : Prop :=
  ∀ Z H vs ds (Qd : D → Prop) Q', vs.length = ds.length → (∀ (i : Nat) v d, vs[i]? = some v → ds[i]? = some d → RB G Z H v d) → g ds Qd →
    (∀ v d H', Same H H' → RS G Z H' v d → Qd d → Q' v H') → (∀ a ∈ Z.O, H a ≠ none) → r vs H Q'
def CallD (S : Ent) (X : Cx) (f : Value) (g : GL) : Prop := ∃ r, CallR X f r ∧ LiftC S.G r g
def wCB (g : GL) (T : TmL) : Tm := fun env Q E => T env (fun ds env1 => g ds fun d => Q d env1) E
variable {es : List Expr} {T : TmL} {x : Str} {p : Pos} {bid : String} {g : GL}
theorem runC {r : List V → Hp → VK → Prop} {ta : TA} (hl : LiftC S.G r g) {W : WX}
    (ra : ∀ Z env σ H Q E (Q' : List V → Hp → Prop), Rel S Z env σ H → T env Q E →
      (∀ Z' env' vs ds H', Rel S Z' env' σ H' → Tr Z H Z' H' → vs.length = ds.length → (∀ (i : Nat) v d, vs[i]? = some v → ds[i]? = some d → RB S.G Z' H' v d) → Q ds env' → Q' vs H') → ExOk S Z H σ E W → ta σ H Q')
    {Z : Zs} {env : Env} {σ : L2.St} {H : Hp} {Q : D → Env → Prop} {E : Ex} {Q' : VK} (R : Rel S Z env σ H) (hT : wCB g T env Q E)
    (k : ∀ Z' env' v d H', Rel S Z' env' σ H' → Tr Z H Z' H' → RS S.G Z' H' v d → Q d env' → Q' v H') (x : ExOk S Z H σ E W) : tCB r ta σ H Q' := by
  refine ra Z env σ H _ E _ R hT (fun Z1 env1 vs ds H1 R1 t1 hl1 r1 h1 => ?_) x
  exact hl Z1 H1 vs ds _ _ hl1 r1 h1 (fun v d H2 sm r2 q => k Z1 env1 v d H2 (R1.grow sm) (Tr.trans R1 t1 (.alloc sm)) r2 q) R1.oin
theorem dx_cb (hc : CallD S X (.builtin bid) g) (hm : X.mg x = none) (hv : bootBuiltins x = some (.builtin bid)) (ha : DA S RB X (e :: es) T) (hg : Gl X x := by rfl) (hn : x ≠ "__name__" := by decide) (hdb : (x == ("__debug__" : Str)) = false := by decide)
    (he : starEach (e :: es) X.env = (false, eval e X.env) :: starEach es X.env := by rfl) (hpl : (backTo pos (starEach es X.env)).any (·.1) = false := by rfl) : DE S X (.Call (.Name x p) (e :: es) [] pos) (wCB g T) := ⟨fun W tk => by
  obtain ⟨r, c, hl⟩ := hc
  obtain ⟨ta, pa, ra⟩ := ha.run W tk
  exact ⟨_, pe_callB c hg hm hv pa hn hdb he hpl, fun Z env σ H Q E Q' R hT k x => runC hl ra R hT k x⟩⟩
theorem dx_cty (hc : CallD S X (.type bid) g) (hm : X.mg x = none) (hv : bootBuiltins x = some (.type bid)) (ha : DA S RB X (e :: es) T) (hg : Gl X x := by rfl) (hn : x ≠ "__name__" := by decide) (hdb : (x == ("__debug__" : Str)) = false := by decide)
    (he : starEach (e :: es) X.env = (false, eval e X.env) :: starEach es X.env := by rfl) (hpl : (backTo pos (starEach es X.env)).any (·.1) = false := by rfl) : DE S X (.Call (.Name x p) (e :: es) [] pos) (wCB g T) := ⟨fun W tk => by
  obtain ⟨r, c, hl⟩ := hc
  obtain ⟨ta, pa, ra⟩ := ha.run W tk
  exact ⟨_, pe_callTy c hg hm hv pa hn hdb he hpl, fun Z env σ H Q E Q' R hT k x => runC hl ra R hT k x⟩⟩
theorem one_of {G : Pg} {Z : Zs} {H : Hp} {vs : List V} {d : D} (hl : vs.length = [d].length) (h : ∀ (i : Nat) v d', vs[i]? = some v → [d][i]? = some d' → RB G Z H v d') : ∃ v, vs = [v] ∧ RB G Z H v d := by
  match vs, hl with
  | [v], _ => exact ⟨v, rfl, h 0 v d rfl rfl⟩
theorem two_of {G : Pg} {Z : Zs} {H : Hp} {vs : List V} {d d2 : D} (hl : vs.length = [d, d2].length) (h : ∀ (i : Nat) v d', vs[i]? = some v → [d, d2][i]? = some d' → RB G Z H v d') : ∃ v v2, vs = [v, v2] ∧ RB G Z H v d ∧ RB G Z H v2 d2 := by
  match vs, hl with
  | [v, v2], _ => exact ⟨v, v2, rfl, h 0 v d rfl rfl, h 1 v2 d2 rfl rfl⟩
def gLen : GL := fun ds Q => match ds with
  | [.tup xs] => Q (.int xs.length)
  | [.lst xs] => Q (.int xs.length)
  | [.str z] => z.length ≤ big ∧ Q (.int z.length)
  | _ => False
theorem cd_len (hK : X.K = S.G.K) : CallD S X (.builtin "len") gLen := by
  refine ⟨_, call_len, fun Z H vs ds Qd Q' hl hr hg k oin => ?_⟩
  unfold gLen at hg
  split at hg
  · obtain ⟨v, rfl, r⟩ := one_of hl hr
    obtain ⟨p, ws, rfl, ep, rp⟩ := r.tup
    rw [← hK] at ep
    refine ⟨_, ws.length, rfl, .inr ⟨ws, ep, rfl⟩, ?_⟩
    rw [rp.length]
    exact k _ _ _ Same.rfl' (.int _) hg
  · obtain ⟨v, rfl, r⟩ := one_of hl hr
    obtain ⟨p, ws, rfl, ep, rp⟩ := r.lst
    refine ⟨_, ws.length, rfl, .inl ⟨ws, SqL.of ep, rfl⟩, ?_⟩
    rw [rp.length]
    exact k _ _ _ Same.rfl' (.int _) hg
  · obtain ⟨v, rfl, r⟩ := one_of hl hr
    rw [r.str]
    exact ⟨_, _, rfl, ⟨big_line hg.1, rfl⟩, k _ _ _ Same.rfl' (.int _) hg.2⟩
  · exact hg.elim
def gAbs : GL := fun ds Q => match ds with
  | [.int i] => Q (.int (if i < 0 then -i else i))
  | _ => False
theorem cd_abs : CallD S X (.builtin "abs") gAbs := by
  refine ⟨_, call_abs, fun Z H vs ds Qd Q' hl hr hg k oin => ?_⟩
  unfold gAbs at hg
  split at hg
  · obtain ⟨v, rfl, r⟩ := one_of hl hr
    rw [r.int]
    exact ⟨_, rfl, k _ _ _ Same.rfl' (.int _) hg⟩
  · exact hg.elim
def gInt : GL := fun ds Q => match ds with
  | [.int i] => Q (.int i)
  | [.bl b] => Q (.int (if b then 1 else 0))
  | _ => False
theorem cd_int : CallD S X (.type "int") gInt := by
  refine ⟨_, call_int1, fun Z H vs ds Qd Q' hl hr hg k oin => ?_⟩
  unfold gInt at hg
  split at hg
  · obtain ⟨v, rfl, r⟩ := one_of hl hr
    rw [r.int]
    exact .inl ⟨_, rfl, k _ _ _ Same.rfl' (.int _) hg⟩
  · obtain ⟨v, rfl, r⟩ := one_of hl hr
    rw [r.bl]
    exact .inr ⟨_, rfl, k _ _ _ Same.rfl' (.int _) hg⟩
  · exact hg.elim
def gMin2 : GL := fun ds Q => match ds with
  | [.int i, .int j] => Q (.int (if j < i then j else i))
  | _ => False
theorem cd_min2 (hc : X.calm = true) : CallD S X (.builtin "min") gMin2 := by
  refine ⟨_, call_min2 hc, fun Z H vs ds Qd Q' hl hr hg k oin => ?_⟩
  unfold gMin2 at hg
  split at hg
  · obtain ⟨v, v2, rfl, r, r2⟩ := two_of hl hr
    rw [r.int, r2.int]
    exact ⟨_, _, rfl, k _ _ _ Same.rfl' (.int _) hg⟩
  · exact hg.elim
def gMax2 : GL := fun ds Q => match ds with
  | [.int i, .int j] => Q (.int (if j > i then j else i))
  | _ => False
theorem cd_max2 (hc : X.calm = true) : CallD S X (.builtin "max") gMax2 := by
  refine ⟨_, call_max2 hc, fun Z H vs ds Qd Q' hl hr hg k oin => ?_⟩
  unfold gMax2 at hg
  split at hg
  · obtain ⟨v, v2, rfl, r, r2⟩ := two_of hl hr
    rw [r.int, r2.int]
    exact ⟨_, _, rfl, k _ _ _ Same.rfl' (.int _) hg⟩
  · exact hg.elim
/-- all of a list of flags -/
def toBs : List D → Option (List Bool)
  | [] => some []
  | .bl b :: r => (toBs r).map (b :: ·)
  | _ :: _ => none
theorem toBs_eq : ∀ {xs : List D} {bs : List Bool}, toBs xs = some bs → xs = bs.map D.bl
  | [], bs, h => by cases h; rfl
  | .bl b :: r, bs, h => by
    rw [toBs] at h
    cases q : toBs r with
    | none => rw [q] at h; cases h
    | some cs =>
      rw [q] at h
      cases h
      rw [toBs_eq q]; rfl
  | .non :: _, _, h => by cases h
  | .int _ :: _, _, h => by cases h
  | .str _ :: _, _, h => by cases h
  | .tup _ :: _, _, h => by cases h
  | .lst _ :: _, _, h => by cases h
  | .dct _ :: _, _, h => by cases h
  | .obj _ _ :: _, _, h => by cases h
  | .frz _ :: _, _, h => by cases h
  | .fn _ :: _, _, h => by cases h
  | .hand :: _, _, h => by cases h
theorem toBs_map : ∀ bs : List Bool, toBs (bs.map D.bl) = some bs
  | [] => rfl
  | b :: r => by rw [List.map_cons, toBs, toBs_map r]; rfl
def gAll : GL := fun ds Q => match ds with
  | [.lst xs] => ∃ bs, toBs xs = some bs ∧ Q (.bl (bs.all id))
  | _ => False
theorem cd_all (hc : X.calm = true) : CallD S X (.builtin "all") gAll := by
  refine ⟨_, cr_all hc, fun Z H vs ds Qd Q' hl hr hg k oin => ?_⟩
  unfold gAll at hg
  split at hg
  · obtain ⟨bs, h1, h2⟩ := hg
    obtain ⟨v, rfl, r⟩ := one_of hl hr
    obtain ⟨p, ws, rfl, ep, rp⟩ := r.lst
    rw [toBs_eq h1] at rp
    rw [rp.bls] at ep
    exact ⟨p, bs, rfl, SqL.of ep, k _ _ _ Same.rfl' (.bl _) h2⟩
  · exact hg.elim
def gAny : GL := fun ds Q => match ds with
  | [.lst xs] => ∃ bs, toBs xs = some bs ∧ Q (.bl (bs.any id))
  | _ => False
theorem cd_any (hc : X.calm = true) : CallD S X (.builtin "any") gAny := by
  refine ⟨_, cr_any hc, fun Z H vs ds Qd Q' hl hr hg k oin => ?_⟩
  unfold gAny at hg
  split at hg
  · obtain ⟨bs, h1, h2⟩ := hg
    obtain ⟨v, rfl, r⟩ := one_of hl hr
    obtain ⟨p, ws, rfl, ep, rp⟩ := r.lst
    rw [toBs_eq h1] at rp
    rw [rp.bls] at ep
    exact ⟨p, bs, rfl, SqL.of ep, k _ _ _ Same.rfl' (.bl _) h2⟩
  · exact hg.elim
def toIs : List D → Option (List Int)
  | [] => some []
  | .int b :: r => (toIs r).map (b :: ·)
  | _ :: _ => none
theorem toIs_eq : ∀ {xs : List D} {bs : List Int}, toIs xs = some bs → xs = bs.map D.int
  | [], bs, h => by cases h; rfl
  | .int b :: r, bs, h => by
    rw [toIs] at h
    cases q : toIs r with
    | none => rw [q] at h; cases h
    | some cs =>
      rw [q] at h
      cases h
      rw [toIs_eq q]; rfl
  | .non :: _, _, h => by cases h
  | .bl _ :: _, _, h => by cases h
  | .str _ :: _, _, h => by cases h
  | .tup _ :: _, _, h => by cases h
  | .lst _ :: _, _, h => by cases h
  | .dct _ :: _, _, h => by cases h
  | .obj _ _ :: _, _, h => by cases h
  | .frz _ :: _, _, h => by cases h
  | .fn _ :: _, _, h => by cases h
  | .hand :: _, _, h => by cases h
theorem toIs_map : ∀ bs : List Int, toIs (bs.map D.int) = some bs
  | [] => rfl
  | b :: r => by rw [List.map_cons, toIs, toIs_map r]; rfl
def gSum : GL := fun ds Q => match ds with
  | [.lst xs] => ∃ ns, toIs xs = some ns ∧ Q (.int ns.sum)
  | _ => False
theorem cd_sum (hc : X.calm = true) : CallD S X (.builtin "sum") gSum := by
  refine ⟨_, cr_sum hc, fun Z H vs ds Qd Q' hl hr hg k oin => ?_⟩
  unfold gSum at hg
  split at hg
  · obtain ⟨bs, h1, h2⟩ := hg
    obtain ⟨v, rfl, r⟩ := one_of hl hr
    obtain ⟨p, ws, rfl, ep, rp⟩ := r.lst
    rw [toIs_eq h1] at rp
    rw [rp.ints] at ep
    exact ⟨p, bs, rfl, SqL.of ep, k _ _ _ Same.rfl' (.int _) h2⟩
  · exact hg.elim
def gTuple : GL := fun ds Q => match ds with
  | [.lst xs] => Q (.tup xs)
  | [.tup xs] => Q (.tup xs)
  | _ => False
theorem cd_tuple (hK : X.K = S.G.K) : CallD S X (.type "tuple") gTuple := by
  refine ⟨_, call_tuple_of, fun Z H vs ds Qd Q' hl hr hg k oin => ?_⟩
  unfold gTuple at hg
  split at hg
  · obtain ⟨v, rfl, r⟩ := one_of hl hr
    obtain ⟨p, ws, rfl, ep, rp⟩ := r.lst
    exact ⟨p, ws, rfl, .inl ⟨SqL.of ep, fun q hq => k _ _ _ (same_upd hq) (new_tup oin hq rp) hg⟩⟩
  · obtain ⟨v, rfl, r⟩ := one_of hl hr
    obtain ⟨p, ws, rfl, ep, rp⟩ := r.tup
    rw [← hK] at ep
    refine ⟨p, ws, rfl, .inr ⟨ep, k _ _ _ Same.rfl' ?_ hg⟩⟩
    rcases r with r | ⟨_, _, _, _, e, _⟩ | ⟨_, _, _, _, _, e, _⟩
    · exact r
    · cases e
    · cases e
  · exact hg.elim
/-! ### isinstance of built-in classes -/
inductive Ty where
  | int | bool | str | tuple | list | dict
def Ty.nm : Ty → String
  | .int => "int" | .bool => "bool" | .str => "str" | .tuple => "tuple" | .list => "list" | .dict => "dict"
def D.isTy : D → Ty → Bool
  | .int _, .int => true
  | .bl _, .int => true
  | .bl _, .bool => true
  | .str _, .str => true
  | .tup _, .tuple => true
  | .lst _, .list => true
  | .dct _, .dict => true
  | _, _ => false
/-- objects are none of these -/
structure ObjCls (K : PySem.W.Frag) (C : Addr) : Prop where
  cl : Cls K C
  ha : PySem.W.findIn K (.ref C) "__class__" = some (some (.builtin "object.__class__"))
  hn : PySem.W.specialIn K (.builtin "object.__class__") "__get__" = some (some (.builtin "getset_descriptor.__get__"))
  ht : PySem.W.takesIn K (.builtin "object.__class__") = some true
  hm : PySem.W.mroIn K C (.type "object") = some true
  no : ∀ t : Ty, PySem.W.kitOne K (.ref C) (.type t.nm) = some false
def D.isHand : D → Bool
  | .hand => true
  | .frz _ => true
  | .fn _ => true
  | _ => false
def wIsT (t : Ty) (T : Tm) : Tm := fun env Q E => T env (fun d env1 => d.isHand = false ∧ Q (.bl (d.isTy t)) env1) E
theorem kit_nm : ∀ t : Ty, kitB "NoneType" t.nm = some false ∧ kitB "bool" t.nm = some (D.isTy (.bl true) t) ∧ kitB "int" t.nm = some (D.isTy (.int 0) t) ∧ kitB "str" t.nm = some (D.isTy (.str ⟨#[]⟩) t) ∧
    kitB "tuple" t.nm = some (D.isTy (.tup []) t) ∧ kitB "list" t.nm = some (D.isTy (.lst []) t) ∧ kitB "dict" t.nm = some (D.isTy (.dct []) t) := by
  intro t
  cases t <;> refine ⟨?_, ?_, ?_, ?_, ?_, ?_, ?_⟩ <;> decide +kernel
theorem kit_of_rep {G : Pg} {Z : Zs} {H : Hp} {v : V} {d : D} (hO : ∀ c C, G.CT c = some C → ObjCls G.K C) (r : RB G Z H v d) (nh : d.isHand = false) : ∃ u, TyX G.K H v u ∧ ∀ t : Ty, PySem.W.kitOne G.K u (.type t.nm) = some (d.isTy t) := by
  rcases r with r | ⟨a, vs, xs, rfl, rfl, n, e, r⟩ | ⟨a, vs, ds, kvs, rfl, rfl, n, r, ⟨hk, e, _⟩ | ⟨hk, e, _⟩⟩
  · cases r with
    | non => exact ⟨_, .base .non, fun t => kit_ty (by rw [(kit_nm t).1]; cases t <;> rfl)⟩
    | bl b => exact ⟨_, .base (.bl b), fun t => kit_ty (by rw [(kit_nm t).2.1]; cases t <;> rfl)⟩
    | int i => exact ⟨_, .base (.int i), fun t => kit_ty (by rw [(kit_nm t).2.2.1]; cases t <;> rfl)⟩
    | str s => exact ⟨_, .base (.str s), fun t => kit_ty (by rw [(kit_nm t).2.2.2.1]; cases t <;> rfl)⟩
    | tup e r =>
      have kk : ∀ xs, ∀ t : Ty, PySem.W.kitOne G.K (.type "tuple") (.type t.nm) = some ((D.tup xs).isTy t) := fun xs t => kit_ty (by rw [(kit_nm t).2.2.2.2.1]; cases t <;> rfl)
      rcases e with (e | ⟨o, e⟩) | ⟨o, its, n, e, ec, _⟩
      · exact ⟨_, .base (.tup (vis_some e).2), kk _⟩
      · exact ⟨_, .fTuple (vis_some e).2, kk _⟩
      · exact ⟨_, .kTuple e ec, kk _⟩
    | lst e r => exact ⟨_, .base (.lst (vis_some e).2), fun t => kit_ty (by rw [(kit_nm t).2.2.2.2.2.1]; cases t <;> rfl)⟩
    | dK e _ _ _ => exact ⟨_, .base (.dK (vis_some e).2), fun t => kit_ty (by rw [(kit_nm t).2.2.2.2.2.2]; cases t <;> rfl)⟩
    | dT e _ _ _ => exact ⟨_, .base (.dT (vis_some e).2), fun t => kit_ty (by rw [(kit_nm t).2.2.2.2.2.2]; cases t <;> rfl)⟩
    | obj ec e _ _ _ =>
      have o := hO _ _ ec
      exact ⟨_, .base (.ins (vis_some e).2 o.cl o.ha o.hn o.ht o.hm), fun t => by rw [o.no]; cases t <;> rfl⟩
    | frz _ _ => cases nh
    | fn _ => cases nh
    | hand _ => cases nh
  · exact ⟨_, .base (.lst e), fun t => kit_ty (by rw [(kit_nm t).2.2.2.2.2.1]; cases t <;> rfl)⟩
  · exact ⟨_, .base (.dK e), fun t => kit_ty (by rw [(kit_nm t).2.2.2.2.2.2]; cases t <;> rfl)⟩
  · exact ⟨_, .base (.dT e), fun t => kit_ty (by rw [(kit_nm t).2.2.2.2.2.2]; cases t <;> rfl)⟩
theorem dx_isT (t : Ty) {tn : Str} {p2 : Pos} (hK : X.K = S.G.K) (hO : ∀ c C, S.G.CT c = some C → ObjCls S.G.K C) (hm : X.mg "isinstance" = none) (hv : bootBuiltins "isinstance" = some (.builtin "isinstance")) (ha : DB S X a Ta)
    (hm2 : X.mg tn = none) (hv2 : bootBuiltins tn = some (.type t.nm)) (hg : Gl X "isinstance" := by rfl) (hg2 : Gl X tn := by rfl) (hn2 : tn ≠ "__name__" := by decide) (hd2 : (tn == ("__debug__" : Str)) = false := by decide)
    (he : starEach (a :: [.Name tn p2]) X.env = (false, eval a X.env) :: starEach [.Name tn p2] X.env := by rfl) (hpl : (backTo pos (starEach [.Name tn p2] X.env)).any (·.1) = false := by rfl) : DE S X (.Call (.Name "isinstance" p) [a, .Name tn p2] [] pos) (wIsT t Ta) := ⟨fun W tk => by
  obtain ⟨ta, pa, ra⟩ := ha.run W tk
  refine ⟨_, pe_callB call_isi hg hm hv (pa_cons pa (pa_cons (pe_bltn (v := .ty t.nm) hg2 hm2 hv2 rfl hn2 hd2) pa_nil) he) (by decide) (by decide) he hpl, fun Z env σ H Q E Q' R hT k x => ?_⟩
  refine ra Z env σ H _ E _ R hT (fun Z1 env1 v d H1 R1 t1 r1 h1 => ?_) x
  obtain ⟨u, ty, kk⟩ := kit_of_rep hO r1 h1.1
  have kk := kk t
  rw [← hK] at ty kk
  exact ⟨v, .ty t.nm, u, .type t.nm, _, rfl, .ty _, ty, kk, k Z1 env1 _ _ H1 R1 t1 (.bl _) h1.2⟩⟩
/-! ### the program's own defs -/
abbrev Fn := List D → (D → Prop) → (Er → Prop) → Prop
/-- a def's promise over plain data: T is told of the arguments' data -/
def spD (G : Pg) (n : Nat) (T : Fn) : Sp := fun vs H Q E => ∃ (Z : Zs) (ds : List D) (Qd : D → Prop) (Ed : Er → Prop), vs.length = n ∧ ds.length = n ∧ (∀ a ∈ Z.O, H a ≠ none) ∧ (∀ a, Z.h = some a → HandOk Z.O H a) ∧ RepL G (vis Z.O H) Z.h vs ds ∧ LamX.Tabs G.T H ∧ T ds Qd Ed ∧
  (∀ d v H', (∀ b o, H b = some o → Z.h ≠ some b → Ex1 H' b o) → (∀ a, Z.h = some a → HandOk Z.O H' a) → LamX.Tabs G.T H' → RS G Z H' v d → Qd d → Q v H') ∧
  (∀ er cls dd H', (∀ b o, H b = some o → Z.h ≠ some b → Ex1 H' b o) → (∀ a, Z.h = some a → HandOk Z.O H' a) → LamX.Tabs G.T H' → ErrOk G Z H' cls dd er → Ed er → E cls dd H')
/-- a def that may be called by the name x -/
structure Cal (P : Program) (w : World) (G : Pg) (mg : Str → Option Value) (base : Heap) (x : Str) (k n : Nat) (T : Fn) : Prop where
  ex : ∃ f fd ps, mg x = some (.ref f) ∧ PySem.W.keepIn G.K (.ref f) = true ∧ Binds G.K fd ps [] ∧ FnOk P w G.K mg base (L2.CX P w) k f fd ps (spD G n T)
theorem Cal.mono {P : Program} {w : World} {G : Pg} {mg : Str → Option Value} {base : Heap} {x : Str} {j k n : Nat} {T : Fn} (h : Cal P w G mg base x j n T) (l : j ≤ k) : Cal P w G mg base x k n T := by
  obtain ⟨f, fd, ps, h1, h2, h3, h4⟩ := h.ex
  exact ⟨f, fd, ps, h1, h2, h3, h4.mono l⟩
def wCall (n : Nat) (F : Fn) (T : TmL) : Tm := fun env Q E => T env (fun ds env1 => ds.length = n ∧ F ds (fun d => Q d env1) (fun er => E er env1)) E
theorem call_end {F : Fn} {n : Nat} {W : WX} {Z Z1 : Zs} {env1 : Env} {σ : L2.St} {H H1 : Hp} {Q : D → Env → Prop} {E : Ex} {Q' : VK} {vs : List V} {ds : List D} (R1 : Rel S Z1 env1 σ H1) (t1 : Tr Z H Z1 H1) (v1 : Vle Z H Z1 H1)
    (hl : vs.length = ds.length) (r1 : ∀ (i : Nat) v d, vs[i]? = some v → ds[i]? = some d → RS S.G Z1 H1 v d) (hn : ds.length = n) (h1 : F ds (fun d => Q d env1) (fun er => E er env1))
    (k : ∀ Z' env' v d H', Rel S Z' env' σ H' → Tr Z H Z' H' → RS S.G Z' H' v d → Q d env' → Q' v H') (x : ExOk S Z H σ E W) :
    spD S.G n F vs H1 Q' (WE W σ) := by
  refine ⟨Z1, ds, _, _, hl.trans hn, hn, R1.oin, R1.hnd, .of_all hl r1, R1.tabs, h1, fun d v H' kp hd tt r q => ?_, fun er cls dd H' kp hd tt r q => ?_⟩
  · exact k Z1 env1 v d H' (R1.step kp hd tt) (Tr.trans R1 t1 ⟨kp, fun _ h => .inl h, fun _ h => h, fun _ h => .inl h, rfl⟩) r q
  · have t : Tr Z1 H1 Z1 H' := ⟨kp, fun _ h => .inl h, fun _ h => h, fun _ h => .inl h, rfl⟩
    exact x Z1 env1 cls dd er H' (R1.step kp hd tt) (Tr.trans R1 t1 t) r q
theorem dx_call {n k : Nat} {F : Fn} (C : Cal X.prog X.w S.G X.mg X.base x k n F) (hK : X.K = S.G.K) (hr : Room k X.A) (ha : DA S RS X (e :: es) T) (hg : Gl X x := by rfl) (hdb : (x == ("__debug__" : Str)) = false := by decide)
    (he : starEach (e :: es) X.env = (false, eval e X.env) :: starEach es X.env := by rfl) (hpl : (backTo pos (starEach es X.env)).any (·.1) = false := by rfl) : DE S X (.Call (.Name x p) (e :: es) [] pos) (wCall n F T) := ⟨fun W tk => by
  obtain ⟨ta, pa, ra⟩ := ha.run W tk
  obtain ⟨f, fd, ps, h1, h2, h3, h4⟩ := C.ex
  rw [← hK] at h2 h3
  have h4' : FnOk X.prog X.w X.K X.mg X.base (L2.CX X.prog X.w) k f fd ps (spD S.G n F) := by rw [hK]; exact h4
  refine ⟨_, pe_callS h4' hr hg h1 h2 h3 (fun σ => passAt tk σ) pa hdb he hpl, fun Z env σ H Q E Q' R hT k x => ?_⟩
  refine ra Z env σ H _ E _ R hT (fun Z1 env1 vs ds H1 R1 t1 hl r1 hh => ?_) x
  exact call_end R1 t1 (R.vle t1) hl r1 hh.1 hh.2 k x⟩
end
end DV

set_option Elab.async false
set_option linter.all false
set_option maxRecDepth 100000
/-! DV5: what is walked, targets, list comprehensions. -/
namespace DV
open PySem PySem.Spec PyProof.Rows L2

/-! ### the canonical readings: one for all contexts -/
def semE (S : Ent) (Rr : RT) (T : Tm) (W : WX) : TE := fun σ H Q' => ∃ Z env Q E, Rel S Z env σ H ∧ T env Q E ∧
  (∀ Z' env' v d H', Rel S Z' env' σ H' → Tr Z H Z' H' → Rr S.G Z' H' v d → Q d env' → Q' v H') ∧ ExOk S Z H σ E W
def semT (S : Ent) (T : Tt) (W : WX) : TT := fun σ H Q' => ∃ Z env Q E, Rel S Z env σ H ∧ T env Q E ∧
  (∀ Z' env' b H', Rel S Z' env' σ H' → Tr Z H Z' H' → Q b env' → Q' b H') ∧ ExOk S Z H σ E W
theorem DX.sem {S : Ent} {Rr : RT} {X : Cx} {e : Expr} {T : Tm} (h : DX S Rr X e T) {W : WX} (tk : Takes X W) : PE X e (semE S Rr T W) := by
  obtain ⟨t, p, q⟩ := h.run W tk
  exact ⟨fun pins s σ H Q I hh => by
    obtain ⟨Z, env, Qd, E, R, hT, k, x⟩ := hh
    exact p.run pins s σ H Q I (q Z env σ H Qd E Q R hT k x)⟩
theorem DT.sem {S : Ent} {X : Cx} {e : Expr} {T : Tt} (h : DT S X e T) {W : WX} (tk : Takes X W) : PT X e (semT S T W) := by
  obtain ⟨t, p, q⟩ := h.run W tk
  exact ⟨fun pins s σ H Q I hh => by
    obtain ⟨Z, env, Qd, E, R, hT, k, x⟩ := hh
    exact p.run pins s σ H Q I (q Z env σ H Qd E Q R hT k x)⟩

/-! ### what is walked -/
abbrev Ti := Env → (List D → Env → Prop) → Ex → Prop
/-- while P holds of the hidden and the heap the iterator gives the items -/
structure Yields (G : Pg) (P : Zs → Hp → Prop) (J : It) (items : List D) : Prop where
  go : ∀ Z H i, P Z H → i < items.length → J.go i H
  stop : ∀ Z H, P Z H → J.stop items.length H
  yld : ∀ Z H i x H', P Z H → (∀ a ∈ Z.O, H a ≠ none) → i < items.length → J.yld i H x H' → Same H H' ∧ ∀ d, items[i]? = some d → RS G Z H' x d
theorem Yields.imp {G : Pg} {P P' : Zs → Hp → Prop} {J : It} {items : List D} (y : Yields G P J items) (h : ∀ Z H, P' Z H → P Z H) : Yields G P' J items :=
  ⟨fun Z H i p hi => y.go Z H i (h Z H p) hi, fun Z H p => y.stop Z H (h Z H p), fun Z H i x H' p => y.yld Z H i x H' (h Z H p)⟩
abbrev PP := Zs → Hp → Zs → Hp → Prop
/-- a way to look at what is walked: stored values through statements, own lists through expressions alone -/
structure Md (Rr : RT) (P : PP) : Prop where
  rb : ∀ {G Z H v d}, Rr G Z H v d → RB G Z H v d
  lst : ∀ {S : Ent} {Z env σ H v xs}, Rel S Z env σ H → Rr S.G Z H v (.lst xs) → ∃ a vs, v = .ref a ∧ ∀ Z2 H2, P Z H Z2 H2 → SqL S.G.K H2 a vs ∧ RepL S.G (vis Z2.O H2) Z2.h vs xs
  tup : ∀ {S : Ent} {Z env σ H v xs}, Rel S Z env σ H → Rr S.G Z H v (.tup xs) → ∃ a vs, v = .ref a ∧ ∀ Z2 H2, P Z H Z2 H2 → SqT S.G.K H2 a vs ∧ RepL S.G (vis Z2.O H2) Z2.h vs xs
  refl : ∀ Z H, P Z H Z H
theorem mdS : Md RS Vle where
  rb h := .inl h
  lst R h := by
    cases h with
    | lst e r => exact ⟨_, _, rfl, fun Z2 H2 p => ⟨SqL.of (vis_some (p.same _ _ e)).2, p.repL r⟩⟩
  tup R h := by
    cases h with
    | tup e r => exact ⟨_, _, rfl, fun Z2 H2 p => ⟨sqT_vis (sqT_same p.same e), p.repL r⟩⟩
  refl _ _ := Vle.refl
/-- as Tr, whatever is kept apart -/
structure Mv (Z : Zs) (H : Hp) (Z' : Zs) (H' : Hp) : Prop where
  keep : ∀ b o, H b = some o → Z.h ≠ some b → Ex1 H' b o
  osub : ∀ a ∈ Z'.O, a ∈ Z.O ∨ H a = none
  hh : ∀ a, Z.h = some a → Z'.h = some a
theorem Mv.tr {Z Z' : Zs} {H H' : Hp} (m : Mv Z H Z' H') (hz : ∀ x, Z'.h = some x → Z.h = some x ∨ H x = none) : Tr ⟨Z.O, Z.h, Z'.B⟩ H Z' H' := ⟨m.keep, m.osub, m.hh, hz, rfl⟩
theorem Mv.vle {S : Ent} {Z Z' : Zs} {H H' : Hp} {env : Env} {σ : L2.St} (m : Mv Z H Z' H') (R : Rel S Z env σ H) : Vle Z H Z' H' := by
  refine ⟨fun b o e => ?_, m.hh⟩
  obtain ⟨h1, h2⟩ := vis_some e
  have h3 : b ∉ Z'.O := fun hb => by
    rcases m.osub b hb with z | z
    · exact h1 z
    · rw [h2] at z; cases z
  have n := vis_nt e
  exact vis_out h3 ((m.keep b o h2 fun z => h1 (R.hin b z)).get n) n
theorem mdB : Md RB Mv where
  rb h := h
  lst R h := by
    rcases h with h | ⟨a, vs, ys, rfl, e, n, h, r⟩ | ⟨a, vs, ds, kvs, rfl, e, _⟩
    · obtain ⟨a, vs, e, q⟩ := mdS.lst R h
      exact ⟨a, vs, e, fun Z2 H2 p => q Z2 H2 (p.vle R)⟩
    · cases e
      exact ⟨a, vs, rfl, fun Z2 H2 p => ⟨SqL.of (p.keep _ _ h n).lst, (p.vle R).repL r⟩⟩
    · cases e
  tup R h := by
    rcases h with h | ⟨a, vs, ys, rfl, e, n, h, r⟩ | ⟨a, vs, ds, kvs, rfl, e, _⟩
    · obtain ⟨a, vs, e, q⟩ := mdS.tup R h
      exact ⟨a, vs, e, fun Z2 H2 p => q Z2 H2 (p.vle R)⟩
    · cases e
    · cases e
  refl _ _ := ⟨fun _ _ e _ => .of e, fun _ h => .inl h, fun _ h => h⟩
structure DI (S : Ent) (P : PP) (X : Cx) (tg iter : Expr) (T : Ti) : Prop where
  run : ∀ W, Takes X W → ∃ wi, PI X tg iter wi ∧ ∀ Z env σ H Q E (R' : It → Hp → Prop), Rel S Z env σ H → T env Q E →
    (∀ Z' env' J items H', Rel S Z' env' σ H' → Tr Z H Z' H' → Yields S.G (P Z' H') J items → Q items env' → R' J H') → ExOk S Z H σ E W → wi σ H R'
section
variable {S : Ent} {X : Cx} {P : PP} {Rr : RT} {tg l a b : Expr} {Ta Tb : Tm} {p pos : Pos}
/-- a list or a tuple -/
def iSq (K : PySem.W.Frag) (tl : TE) : TI := fun σ H R => tl σ H fun x H1 => ∃ a, x = .ref a ∧ (((∃ xs, SqL K H1 a xs) ∧ R (Itl K a) H1) ∨ ((∃ xs, SqT K H1 a xs) ∧ R (Itt K a) H1))
theorem pi_sq {tl : TE} (hl : PE X l tl) : PI X tg l (iSq X.K tl) := ⟨fun pins s σ H R I h => thn (hl.run pins s σ H _ I h) fun v s1 hq => by
  obtain ⟨x, H1, J, rx, a, rfl, hq⟩ := hq
  cases rx
  have fp : ∀ b ∈ [s1.heap.objs.size], FpOk X pins H1 b := fun b hb => by
    rw [List.mem_singleton.mp hb]
    exact J.fpOk (Nat.le_refl _) (J.hok.fresh (Nat.le_refl _))
  rcases hq with ⟨⟨xs, sq⟩, q⟩ | ⟨⟨xs, sq⟩, q⟩
  · obtain ⟨its, _, pl, _⟩ := J.list sq
    exact wpAny_pyIter_list pl.isList ⟨_, [_], _, _, H1, rfl, J.kept (t' := s1.toks) (fun _ _ e => Heap.get?_push_of_some _ e), turn_list a _, ⟨_, Heap.get?_push_size _ rfl, rfl, rfl⟩, fp, q⟩
  · obtain ⟨its, _, pl, _⟩ := J.tuple sq
    exact wpAny_pyIter_tuple (show s1.heap.IsTuple a its.toArray from pl) ⟨_, [_], _, _, H1, rfl, J.kept (t' := s1.toks) (fun _ _ e => Heap.get?_push_of_some _ e), turn_tuple a _, ⟨_, Heap.get?_push_size _ rfl, rfl, rfl⟩, fp, q⟩⟩
def itemsOf : D → Option (List D)
  | .lst xs => some xs
  | .tup xs => some xs
  | _ => none
def wiSq (T : Tm) : Ti := fun env Q E => T env (fun d env1 => ∃ xs, itemsOf d = some xs ∧ Q xs env1) E
theorem yields_of {G : Pg} {P : Zs → Hp → Prop} {J : It} {vs : List V} {xs : List D} {GG : Hp → Prop} (w : Walk J vs.length GG (YAt vs)) (hg : ∀ Z H, P Z H → GG H ∧ RepL G (vis Z.O H) Z.h vs xs) (hl : vs.length = xs.length) : Yields G P J xs := by
  refine ⟨fun Z H i p hi => w.goes i H (by omega) (hg Z H p).1, fun Z H p => by rw [← hl]; exact w.stops H (hg Z H p).1, fun Z H i x H' p oin hi y => ?_⟩
  obtain ⟨e1, e2⟩ := w.yields i H x H' (by omega) (hg Z H p).1 y
  subst e1
  refine ⟨fun _ _ e => e, fun d hd => ?_⟩
  obtain ⟨d', e3, r⟩ := (hg Z _ p).2.getV e2
  rw [hd] at e3; cases e3
  exact r
theorem di_sq (md : Md Rr P) (hK : X.K = S.G.K) (h : DX S Rr X l Ta) : DI S P X tg l (wiSq Ta) := ⟨fun W tk => by
  obtain ⟨t, pp, q⟩ := h.run W tk
  refine ⟨_, pi_sq pp, fun Z env σ H Q E R' R hT k x => ?_⟩
  refine q Z env σ H _ E _ R hT (fun Z1 env1 v d H1 R1 t1 r1 h1 => ?_) x
  obtain ⟨xs, ex, h1⟩ := h1
  cases d with
  | lst ys =>
    cases ex
    obtain ⟨a, vs, rfl, st⟩ := md.lst R1 r1
    obtain ⟨s0, r0⟩ := st Z1 H1 (md.refl _ _)
    rw [← hK] at s0
    refine ⟨a, rfl, .inl ⟨⟨vs, s0⟩, k Z1 env1 _ xs H1 R1 t1 (yields_of walk_list (fun Z2 H2 p => ?_) r0.length) h1⟩⟩
    have := st Z2 H2 p
    rw [← hK] at this
    exact this
  | tup ys =>
    cases ex
    obtain ⟨a, vs, rfl, st⟩ := md.tup R1 r1
    obtain ⟨s0, r0⟩ := st Z1 H1 (md.refl _ _)
    rw [← hK] at s0
    refine ⟨a, rfl, .inr ⟨⟨vs, s0⟩, k Z1 env1 _ xs H1 R1 t1 (yields_of walk_tup (fun Z2 H2 p => ?_) r0.length) h1⟩⟩
    have := st Z2 H2 p
    rw [← hK] at this
    exact this
  | non => cases ex
  | bl _ => cases ex
  | int _ => cases ex
  | str _ => cases ex
  | dct _ => cases ex
  | obj _ _ => cases ex
  | frz _ => cases ex
  | fn _ => cases ex
  | hand => cases ex⟩
/-- range -/
def rangeD (lo hi : Int) : List D := (List.range (hi - lo).toNat).map fun (k : Nat) => D.int (lo + k)
theorem rangeD_len (lo hi : Int) : (rangeD lo hi).length = (hi - lo).toNat := by unfold rangeD; simp
def wiR1 (T : Tm) : Ti := fun env Q E => T env (fun d env1 => match d with | .int j => -4611686018427387904 ≤ j ∧ j < 4611686018427387904 ∧ Q (rangeD 0 j) env1 | _ => False) E
def wiR2 (Ta Tb : Tm) : Ti := fun env Q E => Ta env (fun d env1 => Tb env1 (fun d2 env2 => match d, d2 with
  | .int i, .int j => -4611686018427387904 ≤ i ∧ i < 4611686018427387904 ∧ -4611686018427387904 ≤ j ∧ j < 4611686018427387904 ∧ Q (rangeD i j) env2
  | _, _ => False) E) E
theorem yields_range {G : Pg} {P : Zs → Hp → Prop} (lo hi : Int) : Yields G P (Itr lo (hi - lo).toNat) (rangeD lo hi) := by
  refine ⟨fun Z H i p hi' => by rw [rangeD_len] at hi'; exact hi', fun Z H p => by rw [rangeD_len]; exact Nat.le_refl _, fun Z H i x H' p oin hi' y => ?_⟩
  obtain ⟨rfl, rfl⟩ := y
  refine ⟨fun _ _ e => e, fun d hd => ?_⟩
  unfold rangeD at hd
  rw [List.getElem?_map] at hd
  cases q : (List.range (hi - lo).toNat)[i]? with
  | none => rw [q] at hd; cases hd
  | some k =>
    rw [q] at hd
    have := List.getElem?_range (by rw [rangeD_len] at hi'; exact hi')
    rw [this] at q; cases q; cases hd
    exact .int _
theorem di_r1 (hm : X.mg "range" = none) (h : DB S X a Ta) (hg : Gl X "range" := by rfl) (hs : starEach [a] X.env = [(false, eval a X.env)] := by rfl) : DI S P X tg (.Call (.Name "range" p) [a] [] pos) (wiR1 Ta) := ⟨fun W tk => by
  obtain ⟨t, pp, q⟩ := h.run W tk
  refine ⟨_, pi_range1 hg hm (pa_cons pp pa_nil hs) hs, fun Z env σ H Q E R' R hT k x => ?_⟩
  refine q Z env σ H _ E _ R hT (fun Z1 env1 v d H1 R1 t1 r1 h1 => ?_) x
  split at h1
  · obtain ⟨b1, b2, h1⟩ := h1
    rw [r1.int]
    refine ⟨_, rfl, by omega, by omega, ?_⟩
    have := k Z1 env1 _ _ H1 R1 t1 (yields_range 0 _) h1
    simpa using this
  · exact h1.elim⟩
theorem di_r2 (hm : X.mg "range" = none) (h : DB S X a Ta) (h' : DB S X b Tb) (hg : Gl X "range" := by rfl) (hs : starEach [a, b] X.env = [(false, eval a X.env), (false, eval b X.env)] := by rfl) (hs2 : starEach [b] X.env = [(false, eval b X.env)] := by rfl) :
    DI S P X tg (.Call (.Name "range" p) [a, b] [] pos) (wiR2 Ta Tb) := ⟨fun W tk => by
  obtain ⟨t, pp, q⟩ := h.run W tk
  obtain ⟨t', pp', q'⟩ := h'.run W tk
  refine ⟨_, pi_range2 hg hm (pa_cons pp (pa_cons pp' pa_nil hs2) (by rw [hs, hs2])) hs hs2, fun Z env σ H Q E R' R hT k x => ?_⟩
  refine q Z env σ H _ E _ R hT (fun Z1 env1 v d H1 R1 t1 r1 h1 => ?_) x
  refine q' Z1 env1 σ H1 _ E _ R1 h1 (fun Z2 env2 v2 d2 H2 R2 t2 r2 h2 => ?_) (x.on R1 t1)
  split at h2
  · obtain ⟨b1, b2, b3, b4, h2⟩ := h2
    rw [r1.int, r2.int]
    exact ⟨_, _, rfl, ⟨by omega, by omega, by omega, by omega⟩, k Z2 env2 _ _ H2 R2 (Tr.trans R1 t1 t2) (yields_range _ _) h2⟩
  · exact h2.elim⟩
/-- enumerate of a list -/
def enumD : Nat → List D → List D
  | _, [] => []
  | k, x :: r => .tup [.int k, x] :: enumD (k + 1) r
theorem enumD_len : ∀ (k : Nat) (xs : List D), (enumD k xs).length = xs.length
  | _, [] => rfl
  | k, _ :: r => by rw [enumD, List.length_cons, List.length_cons, enumD_len (k + 1) r]
theorem enumD_get : ∀ (k : Nat) (xs : List D) (i : Nat), (enumD k xs)[i]? = xs[i]?.map fun x => .tup [.int ((k + i : Nat) : Int), x]
  | _, [], i => by simp [enumD]
  | k, x :: r, 0 => by simp [enumD]
  | k, x :: r, i + 1 => by
    rw [enumD, List.getElem?_cons_succ, List.getElem?_cons_succ, enumD_get (k + 1) r i]
    have : k + 1 + i = k + (i + 1) := by omega
    rw [this]
theorem yields_enum {G : Pg} {P : Zs → Hp → Prop} {a : Addr} {vs : List V} {xs : List D} (st : ∀ Z2 H2, P Z2 H2 → SqL G.K H2 a vs ∧ RepL G (vis Z2.O H2) Z2.h vs xs) (hl : vs.length = xs.length) : Yields G P (Ite G.K a) (enumD 0 xs) := by
  refine ⟨fun Z H i p hi => ?_, fun Z H p => ?_, fun Z H i x H' p oin hi y => ?_⟩
  · exact walk_enum.goes i H (by rw [enumD_len] at hi; omega) (st Z H p).1
  · have := walk_enum.stops H (st Z H p).1
    rw [enumD_len, ← hl]; exact this
  · obtain ⟨s1, r1⟩ := st Z H p
    obtain ⟨T, x', y', rfl, hT, rfl, e1, e2⟩ := walk_enum.yields i H x H' (by rw [enumD_len] at hi; omega) s1 y
    cases e1
    refine ⟨same_upd hT, fun d hd => ?_⟩
    obtain ⟨d', e3, r⟩ := r1.getV e2
    rw [enumD_get, e3] at hd
    cases hd
    have e0 : 0 + i = i := Nat.zero_add i
    rw [e0]
    exact new_tup oin hT (.cons (.int _) (.cons r .nil))
theorem yields_enumT {G : Pg} {P : Zs → Hp → Prop} {a : Addr} {vs : List V} {xs : List D} (st : ∀ Z2 H2, P Z2 H2 → SqT G.K H2 a vs ∧ RepL G (vis Z2.O H2) Z2.h vs xs) (hl : vs.length = xs.length) : Yields G P (IteT G.K a) (enumD 0 xs) := by
  refine ⟨fun Z H i p hi => ?_, fun Z H p => ?_, fun Z H i x H' p oin hi y => ?_⟩
  · exact walk_enumT.goes i H (by rw [enumD_len] at hi; omega) (st Z H p).1
  · have := walk_enumT.stops H (st Z H p).1
    rw [enumD_len, ← hl]; exact this
  · obtain ⟨s1, r1⟩ := st Z H p
    obtain ⟨T, x', y', rfl, hT, rfl, e1, e2⟩ := walk_enumT.yields i H x H' (by rw [enumD_len] at hi; omega) s1 y
    cases e1
    refine ⟨same_upd hT, fun d hd => ?_⟩
    obtain ⟨d', e3, r⟩ := r1.getV e2
    rw [enumD_get, e3] at hd
    cases hd
    have e0 : 0 + i = i := Nat.zero_add i
    rw [e0]
    exact new_tup oin hT (.cons (.int _) (.cons r .nil))
def wiEn (T : Tm) : Ti := fun env Q E => T env (fun d env1 => match d with | .lst xs => Q (enumD 0 xs) env1 | .tup xs => Q (enumD 0 xs) env1 | _ => False) E
theorem di_enL {elts : List Expr} {kk : Nat} {tpos : Pos} (md : Md Rr P) (hK : X.K = S.G.K) (hm : X.mg "enumerate" = none) (h : DX S Rr X a Ta) (hg : Gl X "enumerate" := by rfl) (hs : starEach [a] X.env = [(false, eval a X.env)] := by rfl) :
    DI S P X (.Tuple elts kk tpos) (.Call (.Name "enumerate" p) [a] [] pos) (wiEn Ta) := ⟨fun W tk => by
  obtain ⟨t, pp, q⟩ := h.run W tk
  refine ⟨_, pi_enumA hg hm (pa_cons pp pa_nil hs) hs, fun Z env σ H Q E R' R hT k x => ?_⟩
  refine q Z env σ H _ E _ R hT (fun Z1 env1 v d H1 R1 t1 r1 h1 => ?_) x
  split at h1
  · obtain ⟨a, vs, rfl, st⟩ := md.lst R1 r1
    obtain ⟨s0, r0⟩ := st Z1 H1 (md.refl _ _)
    refine ⟨a, vs, rfl, .inl ⟨by rw [hK]; exact s0, ?_⟩⟩
    rw [hK]
    exact k Z1 env1 _ _ H1 R1 t1 (yields_enum st r0.length) h1
  · obtain ⟨a, vs, rfl, st⟩ := md.tup R1 r1
    obtain ⟨s0, r0⟩ := st Z1 H1 (md.refl _ _)
    refine ⟨a, vs, rfl, .inr ⟨by rw [hK]; exact s0, ?_⟩⟩
    rw [hK]
    exact k Z1 env1 _ _ H1 R1 t1 (yields_enumT st r0.length) h1
  · exact h1.elim⟩
/-- zip of two lists, of two tuples -/
def zipD : List D → List D → List D
  | x :: xs, y :: ys => .tup [x, y] :: zipD xs ys
  | _, _ => []
theorem zipD_len : ∀ xs ys, (zipD xs ys).length = min xs.length ys.length
  | [], ys => by simp [zipD]
  | x :: xs, [] => by simp [zipD]
  | x :: xs, y :: ys => by rw [zipD, List.length_cons, zipD_len xs ys, List.length_cons, List.length_cons]; omega
theorem zipD_get : ∀ (xs ys : List D) (i : Nat) (x y : D), xs[i]? = some x → ys[i]? = some y → (zipD xs ys)[i]? = some (.tup [x, y])
  | [], _, _, _, _, e, _ => by simp at e
  | _ :: _, [], _, _, _, _, e => by simp at e
  | x :: xs, y :: ys, 0, _, _, e1, e2 => by simp at e1 e2; subst e1 e2; rfl
  | x :: xs, y :: ys, i + 1, a, b, e1, e2 => by
    rw [zipD, List.getElem?_cons_succ]
    exact zipD_get xs ys i a b (by simpa using e1) (by simpa using e2)
theorem yields_pair {G : Pg} {P : Zs → Hp → Prop} {J : It} {vs ws : List V} {xs ys : List D} {GG : Hp → Prop} (w : Walk J (min vs.length ws.length) GG (YPair (fun i => vs[i]?) (fun i => ws[i]?)))
    (st : ∀ Z2 H2, P Z2 H2 → GG H2 ∧ RepL G (vis Z2.O H2) Z2.h vs xs ∧ RepL G (vis Z2.O H2) Z2.h ws ys) (hl : vs.length = xs.length) (hl2 : ws.length = ys.length) : Yields G P J (zipD xs ys) := by
  refine ⟨fun Z H i p hi => ?_, fun Z H p => ?_, fun Z H i x H' p oin hi y => ?_⟩
  · exact w.goes i H (by rw [zipD_len] at hi; omega) (st Z H p).1
  · have := w.stops H (st Z H p).1
    rw [zipD_len, ← hl, ← hl2]; exact this
  · obtain ⟨g1, r1, r2⟩ := st Z H p
    obtain ⟨T, x', y', rfl, hT, rfl, e1, e2⟩ := w.yields i H x H' (by rw [zipD_len] at hi; omega) g1 y
    refine ⟨same_upd hT, fun d hd => ?_⟩
    obtain ⟨d1, e3, q1⟩ := r1.getV e1
    obtain ⟨d2, e4, q2⟩ := r2.getV e2
    rw [zipD_get xs ys i d1 d2 e3 e4] at hd
    cases hd
    exact new_tup oin hT (.cons q1 (.cons q2 .nil))
theorem walk_zipT {K : PySem.W.Frag} {a b : Addr} {xs ys : List V} : Walk (RZ.ItzT K a b) (min xs.length ys.length) (fun H => SqT K H a xs ∧ SqT K H b ys) (YPair (fun i => xs[i]?) (fun i => ys[i]?)) := by
  refine ⟨fun i H hi q => ?_, fun H q => ⟨xs, ys, q.1, q.2, by omega⟩, fun i H v H' hi q y => ?_⟩
  · have h1 : i < xs.length := by omega
    have h2 : i < ys.length := by omega
    exact ⟨xs, ys, xs[i], ys[i], q.1, q.2, by simp [h1], by simp [h2]⟩
  · obtain ⟨T, x, z, h1, h2, h3, h4, h5⟩ := y
    exact ⟨T, x, z, h1, h2, h3, h4 xs q.1, h5 ys q.2⟩
def wiZip (Ta Tb : Tm) : Ti := fun env Q E => Ta env (fun d env1 => Tb env1 (fun d2 env2 => match d, d2 with
  | .lst xs, .lst ys => Q (zipD xs ys) env2
  | .tup xs, .tup ys => Q (zipD xs ys) env2
  | _, _ => False) E) E
theorem di_zip {elts : List Expr} {kk : Nat} {tpos : Pos} (md : Md Rr P) (ron : ∀ {Z env σ H Z' H' v d}, Rr S.G Z H v d → Rel S Z env σ H → Tr Z H Z' H' → Rr S.G Z' H' v d) (hK : X.K = S.G.K) (hm : X.mg "zip" = none) (h : DX S Rr X a Ta) (h' : DX S Rr X b Tb) (hg : Gl X "zip" := by rfl)
    (hs : starEach [a, b] X.env = (false, eval a X.env) :: starEach [b] X.env := by rfl) (hpl : (backTo pos (starEach [b] X.env)).any (·.1) = false := by rfl) (hs2 : starEach [b] X.env = (false, eval b X.env) :: starEach [] X.env := by rfl) :
    DI S P X (.Tuple elts kk tpos) (.Call (.Name "zip" p) [a, b] [] pos) (wiZip Ta Tb) := ⟨fun W tk => by
  obtain ⟨t, pp, q⟩ := h.run W tk
  obtain ⟨t', pp', q'⟩ := h'.run W tk
  refine ⟨_, RZ.pi_zipA hg hm (pa_cons pp (pa_cons pp' pa_nil hs2) hs) hs hpl, fun Z env σ H Q E R' R hT k x => ?_⟩
  refine q Z env σ H _ E _ R hT (fun Z1 env1 v d H1 R1 t1 r1 h1 => ?_) x
  refine q' Z1 env1 σ H1 _ E _ R1 h1 (fun Z2 env2 v2 d2 H2 R2 t2 r2 h2 => ?_) (x.on R1 t1)
  have r1' := ron r1 R1 t2
  split at h2
  · obtain ⟨a, vs, rfl, st⟩ := md.lst R2 r1'
    obtain ⟨b, ws, rfl, st2⟩ := md.lst R2 r2
    obtain ⟨s0, r0⟩ := st Z2 H2 (md.refl _ _)
    obtain ⟨s02, r02⟩ := st2 Z2 H2 (md.refl _ _)
    refine ⟨a, b, vs, ws, rfl, .inl ⟨by rw [hK]; exact s0, by rw [hK]; exact s02, ?_⟩⟩
    rw [hK]
    exact k Z2 env2 _ _ H2 R2 (Tr.trans R1 t1 t2) (yields_pair (walk_zip rfl) (fun Z3 H3 p => ⟨⟨(st Z3 H3 p).1, (st2 Z3 H3 p).1⟩, (st Z3 H3 p).2, (st2 Z3 H3 p).2⟩) r0.length r02.length) h2
  · obtain ⟨a, vs, rfl, st⟩ := md.tup R2 r1'
    obtain ⟨b, ws, rfl, st2⟩ := md.tup R2 r2
    obtain ⟨s0, r0⟩ := st Z2 H2 (md.refl _ _)
    obtain ⟨s02, r02⟩ := st2 Z2 H2 (md.refl _ _)
    refine ⟨a, b, vs, ws, rfl, .inr ⟨by rw [hK]; exact s0, by rw [hK]; exact s02, ?_⟩⟩
    rw [hK]
    exact k Z2 env2 _ _ H2 R2 (Tr.trans R1 t1 t2) (yields_pair walk_zipT (fun Z3 H3 p => ⟨⟨(st Z3 H3 p).1, (st2 Z3 H3 p).1⟩, (st Z3 H3 p).2, (st2 Z3 H3 p).2⟩) r0.length r02.length) h2
  · exact h2.elim⟩

/-! ### targets of names -/
abbrev Tg := D → Env → (Env → Prop) → Prop
abbrev Tgs := List D → Env → (Env → Prop) → Prop
/-- ix: the slots that are stored -/
structure DG (S : Ent) (X : Cx) (tg : Expr) (ix : List Nat) (g : Tg) : Prop where
  run : ∃ t, PG X tg t ∧ ∀ Z env σ H v d (K : Env → Prop) (K' : L2.St → Hp → Prop), Rel S Z env σ H → RS S.G Z H v d → g d env K →
    (∀ env' σ', Rel S Z env' σ' H → (∀ vs, (∀ i ∈ ix, i ∈ vs) → L2.wipe σ' vs = L2.wipe σ vs) → K env' → K' σ' H) → t v σ H K'
structure DGs (S : Ent) (X : Cx) (tg : List Expr) (ix : List Nat) (g : Tgs) : Prop where
  run : ∃ t, PGs X tg t ∧ ∀ Z env σ H vs ds (K : Env → Prop) (K' : L2.St → Hp → Prop), Rel S Z env σ H → RepL S.G (vis Z.O H) Z.h vs ds → g ds env K →
    (∀ env' σ', Rel S Z env' σ' H → (∀ vs, (∀ i ∈ ix, i ∈ vs) → L2.wipe σ' vs = L2.wipe σ vs) → K env' → K' σ' H) → t vs σ H K'
theorem wipe_set {i : Nat} {x : Option V} (σ : L2.St) : ∀ {vs : List Nat}, i ∈ vs → L2.wipe (σ.set i x) vs = L2.wipe σ vs
  | v :: vs, h => by
    unfold L2.wipe
    by_cases hv : i = v
    · subst hv
      apply List.ext_getElem?
      intro j
      by_cases hj : i = j
      · subst hj
        by_cases hi : i < σ.length
        · rw [List.getElem?_set_self (by rw [wipe_length, List.length_set]; exact hi), List.getElem?_set_self (by rw [wipe_length]; exact hi)]
        · rw [List.getElem?_eq_none (by rw [List.length_set, wipe_length, List.length_set]; omega), List.getElem?_eq_none (by rw [List.length_set, wipe_length]; omega)]
      · rw [List.getElem?_set_ne hj, List.getElem?_set_ne hj]
        by_cases hm : j ∈ vs
        · by_cases hlt : j < σ.length
          · have h1 : ∀ s : L2.St, j < s.length → (L2.wipe s vs)[j]? = some none := fun s hs => by
              cases q : (L2.wipe s vs)[j]? with
              | none => rw [List.getElem?_eq_none_iff, wipe_length] at q; omega
              | some o =>
                cases o with
                | none => rfl
                | some w => exact absurd hm (wipe_some q).2
            rw [h1 _ (by rw [List.length_set]; exact hlt), h1 _ hlt]
          · rw [List.getElem?_eq_none (by rw [wipe_length, List.length_set]; omega), List.getElem?_eq_none (by rw [wipe_length]; omega)]
        · rw [wipe_out hm, wipe_out hm, List.getElem?_set_ne hj]
    · rw [wipe_set σ ((List.mem_cons.mp h).resolve_left hv)]
def gN (i : Nat) : Tg := fun d env K => K (env.set i (.val d))
theorem dg_name (i : Nat) {x : Str} {pos : Pos} (hN : X.N.Nodup) (hi : X.N[i]? = some x := by rfl) (hx : Loc X.env.scope x := by first | exact Or.inl rfl | exact Or.inr rfl) (hf : X.fn x = true ∨ X.env.scope.names.lookup x = some .local := by first | exact .inl rfl | exact .inr rfl) :
    DG S X (.Name x pos) [i] (gN i) := ⟨_, pg_name hN hi hx hf, fun Z env σ H v d K K' R r hg k => k _ _ (R.put r) (fun vs h => wipe_set σ (h i List.mem_cons_self)) hg⟩
def gNil : Tgs := fun ds env K => ds = [] ∧ K env
def gCons (g : Tg) (gs : Tgs) : Tgs := fun ds env K => match ds with
  | d :: r => g d env fun env1 => gs r env1 K
  | [] => False
def gTup (n : Nat) (gs : Tgs) : Tg := fun d env K => match d with
  | .tup ds => ds.length = n ∧ gs ds env K
  | _ => False
theorem dgs_nil : DGs S X [] [] gNil := ⟨_, pgs_nil, fun Z env σ H vs ds K K' R r hg k => by
  obtain ⟨rfl, hg⟩ := hg
  cases r
  exact ⟨rfl, k env σ R (fun _ _ => rfl) hg⟩⟩
theorem dgs_cons {e : Expr} {es : List Expr} {ix ix' : List Nat} {g : Tg} {gs : Tgs} (h1 : DG S X e ix g) (h2 : DGs S X es ix' gs) (hs : (assignEach (e :: es) X.env).map (·.2) = assign e X.env :: (assignEach es X.env).map (·.2) := by rfl) :
    DGs S X (e :: es) (ix ++ ix') (gCons g gs) := by
  obtain ⟨t, p, q⟩ := h1.run
  obtain ⟨t', p', q'⟩ := h2.run
  refine ⟨_, pgs_cons p p' hs, fun Z env σ H vs ds K K' R r hg k => ?_⟩
  cases r with
  | nil => exact hg.elim
  | cons r rs =>
    refine ⟨_, _, rfl, q Z env σ H _ _ _ _ R r hg fun env1 σ1 R1 w1 h1 => ?_⟩
    refine q' Z env1 σ1 H _ _ _ _ R1 rs h1 fun env2 σ2 R2 w2 h2 => k env2 σ2 R2 (fun vs hv => ?_) h2
    rw [w2 vs fun i hi => hv i (List.mem_append_right _ hi), w1 vs fun i hi => hv i (List.mem_append_left _ hi)]
theorem dg_tup {es : List Expr} {kk : Nat} {pos : Pos} {ix : List Nat} {gs : Tgs} {n : Nat} (hK : X.K = S.G.K) (hc : X.calm = true) (h : DGs S X es ix gs) (hn : (assignEach es X.env).length = n := by rfl) (hst : (assignEach es X.env).findIdx? (·.1) = none := by rfl) :
    DG S X (.Tuple es kk pos) ix (gTup n gs) := by
  obtain ⟨t, p, q⟩ := h.run
  refine ⟨_, pg_tup hc p hn hst, fun Z env σ H v d K K' R r hg k => ?_⟩
  unfold gTup at hg
  split at hg
  · cases r with
    | tup e rl =>
      exact ⟨_, _, rfl, by rw [hK]; exact sqT_vis e, by rw [rl.length]; exact hg.1, q Z env σ H _ _ K K' R rl hg.2 k⟩
  · exact hg.elim

/-! ### [elt for target in iter if test] -/
/-- a clause's tests -/
structure DIf (S : Ent) (X : Cx) (ifs : List Expr) (A : Tt) : Prop where
  sem : ∀ W, Takes X W → PTs X ifs (semT S A W)
def wYes : Tt := fun env Q _ => Q true env
theorem dif_nil : DIf S X [] wYes := ⟨fun W tk => ⟨fun pins s σ H Q I hh => by
  obtain ⟨Z, env, Qd, E, R, hT, k, x⟩ := hh
  exact pts_nil.run pins s σ H Q I (k Z env true H R .refl hT)⟩⟩
theorem dif_one {c : Expr} {A : Tt} (h : DT S X c A) : DIf S X [c] A := ⟨fun W tk => pts_one (h.sem tk)⟩
/-- the turns: acc what is made so far -/
def lcGo (g : Tg) (A : Tt) (Te : Tm) (ws : List Nat) : List D → List D → Env → (List D → Env → Prop) → Prop
  | [], acc, env, K => K acc env
  | x :: xs, acc, env, K => g x env fun env1 => A env1 (fun b env2 => if b = true then Te env2 (fun d env3 => lcGo g A Te ws xs (acc ++ [d]) (wipeE env3 ws) K) (fun _ _ => False) else lcGo g A Te ws xs acc (wipeE env2 ws) K) fun _ _ => False
def wLc (Ti' : Ti) (g : Tg) (A : Tt) (Te : Tm) (ws : List Nat) : Tf := fun env Q E => Ti' env (fun xs env1 => xs.length ≤ big ∧ lcGo g A Te ws xs [] (wipeE env1 ws) fun acc env2 => ∀ a, Q (.own a acc) (restE env1 env2 ws)) E
theorem restE_get {env e2 : Env} : ∀ {vs : List Nat} {j : Nat} {x : Sl}, (restE env e2 vs)[j]? = some x → x.owns = true → j ∉ vs ∧ e2[j]? = some x
  | [], j, x, h, _ => ⟨by simp, h⟩
  | v :: vs, j, x, h, o => by
    unfold restE at h
    by_cases hj : v = j
    · subst hj
      by_cases hv : v < (restE env e2 vs).length
      · rw [List.getElem?_set_self hv] at h
        cases h
        cases q : env[v]?.getD .no <;> rw [q] at o <;> cases o
      · rw [List.getElem?_eq_none (by simpa using hv)] at h; cases h
    · rw [List.getElem?_set_ne hj] at h
      obtain ⟨h1, h2⟩ := restE_get h o
      exact ⟨by simp [Ne.symm hj, h1], h2⟩
theorem Spare.back {Z : Zs} {env e2 : Env} {σ : L2.St} {ws : List Nat} {a : Addr} (sp : Spare S Z e2 (L2.wipe σ ws) a) : Spare S Z (restE env e2 ws) σ a :=
  ⟨sp.ino, sp.nh, sp.ne, fun j x e o s => by
    obtain ⟨h1, h2⟩ := restE_get e o
    exact sp.no j x h2 o (by rw [wipe_out h1]; exact s)⟩
theorem wipe_wipe (σ : L2.St) (ws : List Nat) : L2.wipe (L2.wipe σ ws) ws = L2.wipe σ ws := by
  apply List.ext_getElem?
  intro j
  by_cases hm : j ∈ ws
  · have h1 : ∀ s : L2.St, j < s.length → (L2.wipe s ws)[j]? = some none := fun s hs => by
      cases q : (L2.wipe s ws)[j]? with
      | none => rw [List.getElem?_eq_none_iff, wipe_length] at q; omega
      | some o =>
        cases o with
        | none => rfl
        | some w => exact absurd hm (wipe_some q).2
    by_cases hlt : j < σ.length
    · rw [h1 _ (by rw [wipe_length]; exact hlt), h1 _ hlt]
    · rw [List.getElem?_eq_none (by rw [wipe_length, wipe_length]; omega), List.getElem?_eq_none (by rw [wipe_length]; omega)]
  · rw [wipe_out hm]
abbrev W0 : WX := fun _ _ _ _ => False
theorem exOk0 {Z : Zs} {H : Hp} {σ : L2.St} : ExOk S Z H σ (fun _ _ => False) W0 := fun _ _ _ _ _ _ _ _ _ hf => hf
theorem lc_turns {D0 : Addr} {g : Tg} {A : Tt} {Te : Tm} {ws ix : List Nat} {gt : TG} (hix : ∀ i ∈ ix, i ∈ ws)
    (rg : ∀ Z env σ H v d (K : Env → Prop) (K' : L2.St → Hp → Prop), Rel S Z env σ H → RS S.G Z H v d → g d env K →
      (∀ env' σ', Rel S Z env' σ' H → (∀ vs, (∀ i ∈ ix, i ∈ vs) → L2.wipe σ' vs = L2.wipe σ vs) → K env' → K' σ' H) → gt v σ H K')
    {Z1 : Zs} {env1 : Env} {σ : L2.St} {H1 : Hp} {J : It} {items : List D} {Qf : Hp → Prop} {Kf : List D → Env → Prop} (R1 : Rel S Z1 env1 σ H1) (y : Yields S.G (Mv Z1 H1) J items) (hD : H1 D0 = none) (hz : items.length ≤ big)
    (hT : lcGo g A Te ws items [] (wipeE env1 ws) Kf)
    (fin : ∀ Z' e2 vs acc H', Rel S Z' e2 (L2.wipe σ ws) H' → Tr ⟨Z1.O, Z1.h, D0 :: Z1.B⟩ H1 Z' H' → H' D0 = some (.lst vs) → RepL S.G (vis Z'.O H') Z'.h vs acc → Kf acc e2 → Qf H') :
    ∃ W : Nat → Nat → Hp → Prop, (∃ m, W 0 m (upd H1 D0 (.lst []))) ∧ ∀ i m H, W i m H →
      (J.stop i H ∧ Qf H) ∨ (J.go i H ∧ ∃ Nx : Hp → Prop, (∀ H', Nx H' → ∃ m', m' < m ∧ W (i + 1) m' H') ∧ ∀ x H', J.yld i H x H' → gt x (L2.wipe σ ws) H' fun σ2 H2 => L2.wipe σ2 ws = L2.wipe σ ws ∧ semT S A W0 σ2 H2 fun b H3 =>
        if b = true then semE S RS Te W0 σ2 H3 fun y H4 => ∃ acc, H4 D0 = some (.lst acc) ∧ acc.length < sizeLine ∧ Nx (upd H4 D0 (.lst (acc ++ [y]))) else Nx H3) := by
  let Inv : Nat → Hp → Prop := fun i H => ∃ Z' e2 vs acc, Rel S Z' e2 (L2.wipe σ ws) H ∧ Tr ⟨Z1.O, Z1.h, D0 :: Z1.B⟩ H1 Z' H ∧ H D0 = some (.lst vs) ∧ RepL S.G (vis Z'.O H) Z'.h vs acc ∧ acc.length + (items.length - i) ≤ big ∧ lcGo g A Te ws (items.drop i) acc e2 Kf
  refine ⟨fun i m H => m = items.length - i ∧ i ≤ items.length ∧ Inv i H, ⟨_, rfl, Nat.zero_le _, ?_⟩, ?_⟩
  · obtain ⟨R2, t2, no, h0, hh, hn⟩ := R1.hide (o := .lst []) hD
    have R3 := (R2.reserve (p := D0) ⟨List.mem_cons_self, hh, h0, no⟩).wipe ws
    exact ⟨_, _, [], [], R3, ⟨t2.keep, t2.osub, t2.hh, t2.hz, rfl⟩, upd_same, .nil, by simpa using hz, hT⟩
  · rintro i m H ⟨rfl, hi, Z', e2, vs, acc, R, t, hD', rl, hl, hgo⟩
    have mv : Mv Z1 H1 Z' H := ⟨t.keep, t.osub, t.hh⟩
    by_cases hlt : i < items.length
    · refine .inr ⟨y.go _ H i mv hlt, Inv (i + 1), fun H' h => ⟨items.length - (i + 1), by omega, rfl, hlt, h⟩, fun x H' hy => ?_⟩
      obtain ⟨sm, hx⟩ := y.yld _ H i x H' mv R.oin hlt hy
      have hd : items[i]? = some items[i] := List.getElem?_eq_getElem hlt
      rw [List.drop_eq_getElem_cons hlt] at hgo
      have R' := R.grow sm
      have rx : RS S.G Z' H' x items[i] := hx _ hd
      refine rg Z' e2 _ H' x _ _ _ R' rx hgo fun env3 σ3 R3 w3 h3 => ?_
      have wS : L2.wipe σ3 ws = L2.wipe σ ws := by rw [w3 ws hix, wipe_wipe]
      have carry : ∀ {Z5 env5 H5}, Rel S Z5 env5 σ3 H5 → Tr Z' H Z5 H5 → H5 D0 = some (.lst vs) ∧ RepL S.G (vis Z5.O H5) Z5.h vs acc ∧ Tr ⟨Z1.O, Z1.h, D0 :: Z1.B⟩ H1 Z5 H5 := fun {Z5 env5 H5} R5 t5 =>
        ⟨(t5.keep _ _ hD' (R.res D0 (by rw [t.bb]; exact List.mem_cons_self)).nh).lst, (R.vle t5).repL rl, Tr.trans R t t5⟩
      refine ⟨wS, Z', env3, _, _, R3, h3, fun Z4 env4 b H4 R4 t4 hb => ?_, exOk0⟩
      have t' : Tr Z' H Z4 H4 := Tr.trans R' (.alloc sm) t4
      cases b with
      | false =>
        refine iteF ?_
        rw [if_neg Bool.false_ne_true] at hb
        obtain ⟨q1, q2, q4⟩ := carry R4 t'
        have Rw := R4.wipe ws
        rw [wS] at Rw
        exact ⟨Z4, _, vs, acc, Rw, q4, q1, q2, by omega, hb⟩
      | true =>
        refine iteT ?_
        rw [if_pos rfl] at hb
        refine ⟨Z4, env4, _, _, R4, hb, fun Z5 env5 v d H5 R5 t5 r5 h5 => ?_, exOk0⟩
        have t'' := Tr.trans R4 t' t5
        obtain ⟨q1, q2, q4⟩ := carry R5 t''
        have hlen := q2.length
        refine ⟨vs, q1, by rw [hlen, sizeLine_eq]; unfold big at hl; omega, ?_⟩
        have sp := R5.res D0 (by rw [q4.bb]; exact List.mem_cons_self)
        have Rp := (R5.poke (o := .lst (vs ++ [v])) sp q1 plain_lst).wipe ws
        rw [wS] at Rp
        refine ⟨Z5, _, vs ++ [v], acc ++ [d], Rp, ⟨fun b o e n => ?_, q4.osub, q4.hh, q4.hz, q4.bb⟩, upd_same, ?_, ?_, h5⟩
        · obtain ⟨o', e1, e2⟩ := q4.keep b o e n
          exact ⟨o', by rw [upd_ne (ne_of_none e hD)]; exact e1, e2⟩
        · rw [vis_upd_in sp.ino]
          exact q2.append (.cons r5 .nil)
        · rw [List.length_append]
          simp only [List.length_cons, List.length_nil]
          omega
    · have e : i = items.length := by omega
      subst e
      rw [List.drop_length] at hgo
      exact .inl ⟨y.stop _ H mv, fin Z' e2 vs acc H R t hD' rl hgo⟩
theorem df_lc {elt tg iter : Expr} {ifs : List Expr} {scope : Scope} {own : List (Str × Nat)} {pos : Pos} {T : Ti} {g : Tg} {A : Tt} {Te : Tm} {ix ws : List Nat} (hc : X.calm = true) (hN : X.N.Nodup) (hi : DI S Mv X tg iter T) (ok : BlkOk X.N X.env.scope scope own)
    (hg : ∀ (s : Shared) (H : Hp) (C : Addr) (cl : List (Str × Addr)) (fp : List Addr), DG S (X.blk s H scope (compEnvC scope cl C X.env) fp) tg ix g)
    (ht : ∀ (s : Shared) (H : Hp) (C : Addr) (cl : List (Str × Addr)) (fp : List Addr), DIf S (X.blk s H scope (compEnvC scope cl C X.env) fp) ifs A)
    (he : ∀ (s : Shared) (H : Hp) (C : Addr) (cl : List (Str × Addr)) (fp : List Addr), DE S (X.blk s H scope (compEnvC scope cl C X.env) fp) elt Te)
    (hw : own.map (·.2) = ws := by rfl) (hix : ∀ i ∈ ix, i ∈ ws := by decide) (hs : ∀ x, foldedSetIterable iter X.env x = pure x := by intro _; rfl) : DF S X (.ListComp elt [⟨tg, iter, ifs, 0⟩] scope pos) (wLc T g A Te ws) := ⟨fun W tk => by
  subst hw
  obtain ⟨wi, pi, qi⟩ := hi.run W tk
  -- one reading of the target for all blocks
  let gt : TG := fun v σ H K' => ∀ s0 H0 C cl fp, Classical.choose (hg s0 H0 C cl fp).run v σ H K'
  have pg : ∀ s0 H0 C cl fp, PG (X.blk s0 H0 scope (compEnvC scope cl C X.env) fp) tg gt := fun s0 H0 C cl fp =>
    ⟨fun pins s σ H v u Q I r h => (Classical.choose_spec (hg s0 H0 C cl fp).run).1.run pins s σ H v u Q I r (h s0 H0 C cl fp)⟩
  refine ⟨_, pe_lc hc hN pi ok pg (fun s H C cl fp => (ht s H C cl fp).sem W0 takes0) (fun s H C cl fp => (he s H C cl fp).sem takes0) hs, fun Z env σ H Q E Q' R hT k x => ?_⟩
  refine qi Z env σ H _ E _ R hT (fun Z1 env1 J items H1 R1 t1 y h1 D0 hD => ?_) x
  obtain ⟨hz, hgo⟩ := h1
  refine lc_turns hix (fun Z env σ H v d K K' R r hk kk s0 H0 C cl fp => (Classical.choose_spec (hg s0 H0 C cl fp).run).2 Z env σ H v d K K' R r hk kk) R1 y hD hz hgo fun Z' e2 vs acc H' R' t' hD' rl hq => ?_
  obtain ⟨R2, sp⟩ := R'.release t'.bb
  have t2 : Tr Z1 H1 ⟨Z'.O, Z'.h, Z1.B⟩ H' := ⟨t'.keep, t'.osub, t'.hh, t'.hz, rfl⟩
  have R3 := R1.back (R1.vle t2) R2
  exact k _ _ D0 (.own D0 acc) H' R3 (Tr.trans R1 t1 t2) sp.back (fun hb => (R1.oin D0 (R1.res D0 hb).ino) hD) rfl ⟨rfl, vs, hD', rl⟩ (hq D0)⟩
end
end DV

set_option Elab.async false
set_option linter.all false
set_option maxRecDepth 100000
/-! DV6: statements, defs. -/
namespace DV
open PySem PySem.Spec PyProof.Rows L2

structure Post where
  nx : Env → Prop
  rt : D → Env → Prop
  bk : Env → Prop
  ct : Env → Prop
  ex : Ex
  rf : Sl → Env → Prop := fun _ _ => False
abbrev Ts := Env → Post → Prop
structure Fits (S : Ent) (Z : Zs) (H : Hp) (P : Post) (D' : Ends) (W : WX) : Prop where
  nx : ∀ Z' env' σ' H', Rel S Z' env' σ' H' → Vle Z H Z' H' → P.nx env' → D'.nx σ' H'
  rt : ∀ Z' env' σ' v d H', Rel S Z' env' σ' H' → Vle Z H Z' H' → RS S.G Z' H' v d → P.rt d env' → D'.rt v H'
  bk : ∀ Z' env' σ' H', Rel S Z' env' σ' H' → Vle Z H Z' H' → P.bk env' → D'.bk σ' H'
  ct : ∀ Z' env' σ' H', Rel S Z' env' σ' H' → Vle Z H Z' H' → P.ct env' → D'.ct σ' H'
  ex : ∀ σ', ExV S Z H σ' P.ex W
  rf : ∀ Z' env' σ' a x H', Rel S Z' env' σ' H' → Vle Z H Z' H' → Spare S Z' env' σ' a → a ∉ Z'.B → OwnAt S Z' H' a x → P.rf x env' → D'.rt (.ref a) H'
theorem Fits.on {S : Ent} {Z Z' : Zs} {H H' : Hp} {P : Post} {D' : Ends} {W : WX} (f : Fits S Z H P D' W) (v : Vle Z H Z' H') : Fits S Z' H' P D' W :=
  ⟨fun Z2 e s H2 R v2 => f.nx Z2 e s H2 R (v.trans v2), fun Z2 e s x d H2 R v2 => f.rt Z2 e s x d H2 R (v.trans v2), fun Z2 e s H2 R v2 => f.bk Z2 e s H2 R (v.trans v2), fun Z2 e s H2 R v2 => f.ct Z2 e s H2 R (v.trans v2), fun s => (f.ex s).on v, fun Z2 e s a x H2 R v2 => f.rf Z2 e s a x H2 R (v.trans v2)⟩
/-- what a body's context lets out of its own loops -/
abbrev Pas (X : Cx) : Prop := PassesOwn (model X.prog X.w) X.A X.env X.xe
structure DS (S : Ent) (X : Cx) (st : Stmt) (T : Ts) : Prop where
  run : ∀ W, Takes X W → Pas X → ∃ t, PS X st t ∧ ∀ Z env σ H P D', Rel S Z env σ H → T env P → Fits S Z H P D' W → t D' σ H
structure DSs (S : Ent) (X : Cx) (st : List Stmt) (T : Ts) : Prop where
  run : ∀ W, Takes X W → Pas X → ∃ t, PSs X st t ∧ ∀ Z env σ H P D', Rel S Z env σ H → T env P → Fits S Z H P D' W → t D' σ H
section
variable {S : Ent} {X : Cx} {st : Stmt} {rest : List Stmt} {e a b : Expr} {T T2 B : Ts} {Te : Tm} {A : Tt} {pos : Pos}
def wSkip : Ts := fun env P => P.nx env
def wSeq (T T2 : Ts) : Ts := fun env P => T env { P with nx := fun env1 => T2 env1 P }
theorem dss_nil : DSs S X [] wSkip := ⟨fun W tk pa => ⟨_, pss_nil, fun Z env σ H P D' R hT f => f.nx Z env σ H R .refl hT⟩⟩
theorem dss_one (h : DS S X st T) : DSs S X [st] T := ⟨fun W tk pa => by
  obtain ⟨t, p, q⟩ := h.run W tk pa
  exact ⟨t, pss_one p, q⟩⟩
theorem dss_cons (h : DS S X st T) (h2 : DSs S X rest T2) : DSs S X (st :: rest) (wSeq T T2) := ⟨fun W tk pa => by
  obtain ⟨t, p, q⟩ := h.run W tk pa
  obtain ⟨t2, p2, q2⟩ := h2.run W tk pa
  exact ⟨_, pss_cons p p2, fun Z env σ H P D' R hT f => q Z env σ H _ { D' with nx := t2 D' } R hT ⟨fun Z' e s H' R' v hn => q2 Z' e s H' P D' R' hn (f.on v), f.rt, f.bk, f.ct, f.ex, f.rf⟩⟩⟩
theorem ds_pass : DS S X (.Pass pos) wSkip := ⟨fun W tk pa => ⟨_, ps_pass, fun Z env σ H P D' R hT f => f.nx Z env σ H R .refl hT⟩⟩
def wBrk : Ts := fun env P => P.bk env
theorem ds_brk : DS S X (.Break pos) wBrk := ⟨fun W tk pa => ⟨_, ps_break, fun Z env σ H P D' R hT f => f.bk Z env σ H R .refl hT⟩⟩
def wCnt : Ts := fun env P => P.ct env
theorem ds_cnt : DS S X (.Continue pos) wCnt := ⟨fun W tk pa => ⟨_, ps_continue, fun Z env σ H P D' R hT f => f.ct Z env σ H R .refl hT⟩⟩
def wNever : Ts := fun _ _ => False
theorem ds_never : DS S X st wNever := ⟨fun W tk pa => ⟨_, ps_never, fun Z env σ H P D' R hT f => hT.elim⟩⟩
def wRet (T : Tm) : Ts := fun env P => T env (fun d env1 => P.rt d env1) P.ex
theorem ds_ret (h : DE S X e Te) : DS S X (.Return (some e) pos) (wRet Te) := ⟨fun W tk pa => by
  obtain ⟨t, p, q⟩ := h.run W tk
  exact ⟨_, ps_ret p, fun Z env σ H P D' R hT f => q Z env σ H _ _ _ R hT (fun Z1 env1 v d H1 R1 t1 r1 h1 => f.rt Z1 env1 σ v d H1 R1 (R.vle t1) r1 h1) ((f.ex σ).ok R)⟩⟩
/-- return of a new list -/
def wRetF (T : Tf) : Ts := fun env P => T env (fun x env1 => P.rf x env1) P.ex
theorem ds_retF {Tn : Tf} (h : DF S X e Tn) : DS S X (.Return (some e) pos) (wRetF Tn) := ⟨fun W tk pa => by
  obtain ⟨t, p, q⟩ := h.run W tk
  exact ⟨_, ps_ret p, fun Z env σ H P D' R hT f => q Z env σ H _ _ _ R hT (fun Z1 env1 a x H1 R1 t1 sp nb _ oa h1 => f.rf Z1 env1 σ a x H1 R1 (R.vle t1) sp nb oa h1) ((f.ex σ).ok R)⟩⟩
def wRetN : Ts := fun env P => P.rt .non env
theorem ds_retN : DS S X (.Return none pos) wRetN := ⟨fun W tk pa => ⟨_, ps_retN, fun Z env σ H P D' R hT f => f.rt Z env σ .non .non H R .refl .non hT⟩⟩
def wDrop (T : Tm) : Ts := fun env P => T env (fun _ env1 => P.nx env1) P.ex
theorem ds_expr (h : DE S X e Te) (hs : swapsWith e none pos.line X.env = pure false := by rfl) : DS S X (.Expr e pos) (wDrop Te) := ⟨fun W tk pa => by
  obtain ⟨t, p, q⟩ := h.run W tk
  exact ⟨_, ps_expr p hs, fun Z env σ H P D' R hT f => q Z env σ H _ _ _ R hT (fun Z1 env1 v d H1 R1 t1 r1 h1 => f.nx Z1 env1 σ H1 R1 (R.vle t1) h1) ((f.ex σ).ok R)⟩⟩
def wIfS (A : Tt) (T T2 : Ts) : Ts := fun env P => A env (fun k env1 => if k = true then T env1 P else T2 env1 P) P.ex
theorem ds_if {c : Expr} {sa sb : List Stmt} (hc : DT S X c A) (h : DSs S X sa T) (h2 : DSs S X sb T2) : DS S X (.If c sa sb pos) (wIfS A T T2) := ⟨fun W tk pa => by
  obtain ⟨tc, pc, qc⟩ := hc.run W tk
  obtain ⟨t, p, q⟩ := h.run W tk pa
  obtain ⟨t2, p2, q2⟩ := h2.run W tk pa
  refine ⟨_, ps_if pc p p2, fun Z env σ H P D' R hT f => ?_⟩
  refine qc Z env σ H _ _ _ R hT (fun Z1 env1 k H1 R1 t1 h1 => ?_) ((f.ex σ).ok R)
  cases k with
  | true =>
    refine iteT ?_
    rw [if_pos rfl] at h1
    exact q Z1 env1 σ H1 P D' R1 h1 (f.on (R.vle t1))
  | false =>
    refine iteF ?_
    rw [if_neg Bool.false_ne_true] at h1
    exact q2 Z1 env1 σ H1 P D' R1 h1 (f.on (R.vle t1))⟩
/-! ### assignments -/
def wAsg (T : Tm) (g : Tg) : Ts := fun env P => T env (fun d env1 => g d env1 P.nx) P.ex
theorem ds_set (i : Nat) {x : Str} {p' : Pos} (hN : X.N.Nodup) (h : DE S X e Te) (hi : X.N[i]? = some x := by rfl) (hx : Loc X.env.scope x := by first | exact Or.inl rfl | exact Or.inr rfl) (hs : swapsWith e (some (.Name x p')) pos.line X.env = pure false := by rfl)
    (hf : X.fn x = true ∨ X.env.scope.names.lookup x = some .local := by first | exact .inl rfl | exact .inr rfl) : DS S X (.Assign [.Name x p'] e pos) (wAsg Te (gN i)) := ⟨fun W tk pa => by
  obtain ⟨t, p, q⟩ := h.run W tk
  exact ⟨_, ps_set hN hi hx p hs hf, fun Z env σ H P D' R hT f => q Z env σ H _ _ _ R hT (fun Z1 env1 v d H1 R1 t1 r1 h1 => f.nx Z1 _ _ H1 (R1.put r1) (R.vle t1) h1) ((f.ex σ).ok R)⟩⟩
/-- a target of any form (a tuple of names) -/
theorem ds_asg {tg : Expr} {ix : List Nat} {g : Tg} (h : DE S X e Te) (hg : DG S X tg ix g) (hs : swapsWithSole [tg] e pos.line X.env = pure false := by rfl) (hw : swappedStores [tg] e X.env = pure none := by rfl)
    (h1 : (assignEach [tg] X.env).map (·.2) = [assign tg X.env] := by rfl) : DS S X (.Assign [tg] e pos) (wAsg Te g) := ⟨fun W tk pa => by
  obtain ⟨t, p, q⟩ := h.run W tk
  obtain ⟨tg', pg, qg⟩ := hg.run
  exact ⟨_, ps_asg p pg hs hw h1, fun Z env σ H P D' R hT f => q Z env σ H _ _ _ R hT (fun Z1 env1 v d H1 R1 t1 r1 h1 =>
    qg Z1 env1 σ H1 v d _ _ R1 r1 h1 fun env2 σ2 R2 _ h2 => f.nx Z1 env2 σ2 H1 R2 (R.vle t1) h2) ((f.ex σ).ok R)⟩⟩
/-- a new list of the def's own -/
def wOwn (T : Tf) (i : Nat) : Ts := fun env P => T env (fun x env1 => P.nx (env1.set i x)) P.ex
theorem ds_own (i : Nat) {x : Str} {p' : Pos} {Tn : Tf} (hN : X.N.Nodup) (h : DF S X e Tn) (hi : X.N[i]? = some x := by rfl) (hx : Loc X.env.scope x := by first | exact Or.inl rfl | exact Or.inr rfl) (hs : swapsWith e (some (.Name x p')) pos.line X.env = pure false := by rfl)
    (hf : X.fn x = true ∨ X.env.scope.names.lookup x = some .local := by first | exact .inl rfl | exact .inr rfl) : DS S X (.Assign [.Name x p'] e pos) (wOwn Tn i) := ⟨fun W tk pa => by
  obtain ⟨t, p, q⟩ := h.run W tk
  exact ⟨_, ps_set hN hi hx p hs hf, fun Z env σ H P D' R hT f => q Z env σ H _ _ _ R hT (fun Z1 env1 a y H1 R1 t1 sp nb hy oa h1 =>
    f.nx Z1 _ _ H1 (R1.putOwn hy sp.ino sp.nh sp.ne oa sp.no nb) (R.vle t1) h1) ((f.ex σ).ok R)⟩⟩
/-- y = [..] of one line -/
theorem ds_ownLc (i : Nat) {y : Str} {py : Pos} {elt tg iter : Expr} {ifs : List Expr} {scope : Scope} {own : List (Str × Nat)} {spos : Pos} {Tt' : Ti} {g : Tg} {ix ws : List Nat} (hc : X.calm = true) (hN : X.N.Nodup)
    (hi : DI S Mv X tg iter Tt') (ok : BlkOk X.N X.env.scope scope own)
    (hg : ∀ (s : Shared) (H : Hp) (C : Addr) (cl : List (Str × Addr)) (fp : List Addr), DG S (X.blk s H scope (compEnvC scope cl C X.env) fp) tg ix g)
    (ht : ∀ (s : Shared) (H : Hp) (C : Addr) (cl : List (Str × Addr)) (fp : List Addr), DIf S (X.blk s H scope (compEnvC scope cl C X.env) fp) ifs A)
    (he : ∀ (s : Shared) (H : Hp) (C : Addr) (cl : List (Str × Addr)) (fp : List Addr), DE S (X.blk s H scope (compEnvC scope cl C X.env) fp) elt Te)
    (hsw : swapsWith (.ListComp elt [⟨tg, iter, ifs, 0⟩] scope pos) (some (.Name y py)) spos.line X.env = pure true) (hy : X.N[i]? = some y := by rfl) (hyl : X.env.scope.names.lookup y = some .local := by rfl)
    (hw : own.map (·.2) = ws := by rfl) (hix : ∀ i ∈ ix, i ∈ ws := by decide) (hs : ∀ x, foldedSetIterable iter X.env x = pure x := by intro _; rfl) :
    DS S X (.Assign [.Name y py] (.ListComp elt [⟨tg, iter, ifs, 0⟩] scope pos) spos) (wOwn (wLc Tt' g A Te ws) i) := ⟨fun W tk pa => by
  subst hw
  obtain ⟨wi, pi, qi⟩ := hi.run W tk
  let gt : TG := fun v σ H K' => ∀ s0 H0 C cl fp, Classical.choose (hg s0 H0 C cl fp).run v σ H K'
  have pg : ∀ s0 H0 C cl fp, PG (X.blk s0 H0 scope (compEnvC scope cl C X.env) fp) tg gt := fun s0 H0 C cl fp =>
    ⟨fun pins s σ H v u Q I r h => (Classical.choose_spec (hg s0 H0 C cl fp).run).1.run pins s σ H v u Q I r (h s0 H0 C cl fp)⟩
  refine ⟨_, ps_setLc hc hN hy hyl hsw pi ok pg (fun s H C cl fp => (ht s H C cl fp).sem W0 takes0) (fun s H C cl fp => (he s H C cl fp).sem takes0) hs, fun Z env σ H P D' R hT f => ?_⟩
  refine qi Z env σ H _ _ _ R hT (fun Z1 env1 J items H1 R1 t1 y h1 D0 hD => ?_) ((f.ex σ).ok R)
  obtain ⟨hz, hgo⟩ := h1
  refine lc_turns hix (fun Z env σ H v d K K' R r hk kk s0 H0 C cl fp => (Classical.choose_spec (hg s0 H0 C cl fp).run).2 Z env σ H v d K K' R r hk kk) R1 y hD hz hgo fun Z' e2 vs acc H' R' t' hD' rl hq => ?_
  obtain ⟨R2, sp⟩ := R'.release t'.bb
  have t2 : Tr Z1 H1 ⟨Z'.O, Z'.h, Z1.B⟩ H' := ⟨t'.keep, t'.osub, t'.hh, t'.hz, rfl⟩
  have R3 := R1.back (R1.vle t2) R2
  have sb := sp.back (env := env1)
  exact f.nx _ _ _ H' (R3.putOwn (x := .own D0 acc) rfl sb.ino sb.nh sb.ne ⟨rfl, vs, hD', rl⟩ sb.no fun hb => (R1.oin D0 (R1.res D0 hb).ino) hD) ((R.vle t1).trans (R1.vle t2)) (hq D0)⟩
/-! ### two at once -/
/-- a result for a slot: a value, or a list of one's own -/
def SlV (S : Ent) (Z : Zs) (env : Env) (σ : L2.St) (H : Hp) (v : V) : Sl → Prop
  | .val d => RS S.G Z H v d
  | x => x.owns = true ∧ ∃ a, v = .ref a ∧ Spare S Z env σ a ∧ a ∉ Z.B ∧ OwnAt S Z H a x
structure DO (S : Ent) (X : Cx) (e : Expr) (T : Tf) : Prop where
  run : ∀ W, Takes X W → ∃ t, PE X e t ∧ ∀ Z env σ H Q E Q', Rel S Z env σ H → T env Q E →
    (∀ Z' env' v x H', Rel S Z' env' σ H' → Tr Z H Z' H' → SlV S Z' env' σ H' v x → Q x env' → Q' v H') → ExOk S Z H σ E W → t σ H Q'
def wV (T : Tm) : Tf := fun env Q E => T env (fun d env1 => Q (.val d) env1) E
theorem do_v (h : DE S X e Te) : DO S X e (wV Te) := ⟨fun W tk => by
  obtain ⟨t, p, q⟩ := h.run W tk
  exact ⟨t, p, fun Z env σ H Q E Q' R hT k x => q Z env σ H _ E _ R hT (fun Z1 env1 v d H1 R1 t1 r1 h1 => k Z1 env1 v (.val d) H1 R1 t1 r1 h1) x⟩⟩
theorem do_f {Tn : Tf} (h : DF S X e Tn) : DO S X e Tn := ⟨fun W tk => by
  obtain ⟨t, p, q⟩ := h.run W tk
  refine ⟨t, p, fun Z env σ H Q E Q' R hT k x => q Z env σ H _ E _ R hT (fun Z1 env1 a y H1 R1 t1 sp nb hy oa h1 => k Z1 env1 _ y H1 R1 t1 ?_ h1) x⟩
  cases y with
  | no => cases hy
  | pin _ _ _ => cases hy
  | val _ => cases hy
  | own _ _ => exact ⟨rfl, a, rfl, sp, nb, oa⟩
  | ownd _ _ => exact ⟨rfl, a, rfl, sp, nb, oa⟩⟩
/-- a row of such results, stored one after another into different slots -/
def PutAll (S : Ent) (K : Env → Prop) (D' : L2.St → Hp → Prop) : List Nat → List V → Zs → Env → L2.St → Hp → Prop := fun _ _ _ _ _ _ => True
theorem SlV.put {Z : Zs} {env : Env} {σ : L2.St} {H : Hp} {v : V} {x : Sl} {i : Nat} (R : Rel S Z env σ H) (h : SlV S Z env σ H v x) : Rel S Z (env.set i x) (σ.set i (some v)) H := by
  cases x with
  | val d => exact R.put h
  | no => cases h.1
  | pin _ _ _ => cases h.1
  | own _ xs =>
    obtain ⟨hy, a, rfl, sp, nb, oa⟩ := h
    exact R.putOwn hy sp.ino sp.nh sp.ne oa sp.no nb
  | ownd _ xs =>
    obtain ⟨hy, a, rfl, sp, nb, oa⟩ := h
    exact R.putOwn hy sp.ino sp.nh sp.ne oa sp.no nb
/-- the second result, the first one kept apart meanwhile -/
theorem pair_read {ta tb : TE} {W : WX} {Ta Tb : Tf}
    (ra : ∀ Z env σ H Q E Q', Rel S Z env σ H → Ta env Q E → (∀ Z' env' v x H', Rel S Z' env' σ H' → Tr Z H Z' H' → SlV S Z' env' σ H' v x → Q x env' → Q' v H') → ExOk S Z H σ E W → ta σ H Q')
    (rb : ∀ Z env σ H Q E Q', Rel S Z env σ H → Tb env Q E → (∀ Z' env' v x H', Rel S Z' env' σ H' → Tr Z H Z' H' → SlV S Z' env' σ H' v x → Q x env' → Q' v H') → ExOk S Z H σ E W → tb σ H Q')
    {Z : Zs} {env : Env} {σ : L2.St} {H : Hp} {E : Ex} {K : Sl → Sl → Env → Prop} {K' : V → V → Hp → Prop} (R : Rel S Z env σ H) (x : ExOk S Z H σ E W)
    (hT : Ta env (fun x env1 => Tb env1 (fun y env2 => K x y env2) E) E) (i j : Nat)
    (k : ∀ Z' env' v w x y H', Rel S Z' env' σ H' → Tr Z H Z' H' → Rel S Z' ((env'.set i x).set j y) ((σ.set i (some v)).set j (some w)) H' → K x y env' → K' v w H') :
    ta σ H fun v H1 => tb σ H1 fun w H2 => K' v w H2 := by
  refine ra Z env σ H _ E _ R hT (fun Z1 env1 v x1 H1 R1 t1 s1 h1 => ?_) x
  have own : ∀ a, v = .ref a → x1.owns = true → Spare S Z1 env1 σ a → a ∉ Z1.B → OwnAt S Z1 H1 a x1 → tb σ H1 fun w H2 => K' v w H2 := fun a ev hy sp nb oa => by
    subst ev
    have Rr := R1.reserve sp
    refine rb ⟨Z1.O, Z1.h, a :: Z1.B⟩ env1 σ H1 _ E _ Rr h1 (fun Z2 env2 w y H2 R2 t2 s2 h2 => ?_) (fun Z3 e3 cls dd er H3 R3 t3 eo h3 => x ⟨Z3.O, Z3.h, Z1.B⟩ e3 cls dd er H3 (R3.release t3.bb).1 (Tr.trans R1 t1 ⟨t3.keep, t3.osub, t3.hh, t3.hz, rfl⟩) eo h3)
    obtain ⟨R3, sp3⟩ := R2.release t2.bb
    have t2' : Tr Z1 H1 ⟨Z2.O, Z2.h, Z1.B⟩ H2 := ⟨t2.keep, t2.osub, t2.hh, t2.hz, rfl⟩
    have nota : ∀ c, c ∉ Z2.B → c ≠ a := fun c hc z => hc (by rw [z, t2.bb]; exact List.mem_cons_self)
    have nb2 : ∀ c, c ∉ Z2.B → c ∉ Z1.B := fun c hc z => hc (by rw [t2.bb]; exact List.mem_cons_of_mem _ z)
    have Hs : ∀ o, H1 a = some o → NT o → H2 a = some o := fun o q n => (t2.keep a o q sp.nh).get n
    have oa2 : OwnAt S ⟨Z2.O, Z2.h, Z1.B⟩ H2 a x1 := by
      cases x1 with
      | no => exact oa.elim
      | pin _ _ _ => exact oa.elim
      | val _ => exact oa.elim
      | own _ xs =>
        obtain ⟨ea, vs, q1, q2⟩ := oa
        exact ⟨ea, vs, Hs _ q1 (fun _ z => by cases z), (R1.vle t2').repL q2⟩
      | ownd _ xs =>
        obtain ⟨ea, vs, ds, q1, q2⟩ := oa
        refine ⟨ea, vs, ds, (R1.vle t2').repL q1, ?_⟩
        obtain ⟨hk, e1, e2⟩ := q2
        exact ⟨hk, Hs _ e1 (fun _ z => by cases z), e2⟩
    have v2 : Tr Z H ⟨Z2.O, Z2.h, Z1.B⟩ H2 := Tr.trans R1 t1 t2'
    -- the second first (they are different slots), then the first
    have put2 : ∀ (e' : Env) (s' : L2.St), Rel S ⟨Z2.O, Z2.h, Z1.B⟩ e' s' H2 → (∀ c, Spare S ⟨Z2.O, Z2.h, Z1.B⟩ env2 σ c → c ≠ a → Spare S ⟨Z2.O, Z2.h, Z1.B⟩ e' s' c) → Rel S ⟨Z2.O, Z2.h, Z1.B⟩ (e'.set j y) (s'.set j (some w)) H2 := fun e' s' Re hsp => by
      cases y with
      | val d => exact Re.put s2
      | no => cases s2.1
      | pin _ _ _ => cases s2.1
      | own _ ys =>
        obtain ⟨hy2, c, rfl, spc, nbc, oc⟩ := s2
        have := hsp c ⟨spc.ino, spc.nh, spc.ne, spc.no⟩ (nota c nbc)
        exact Re.putOwn hy2 this.ino this.nh this.ne oc this.no (nb2 c nbc)
      | ownd _ ys =>
        obtain ⟨hy2, c, rfl, spc, nbc, oc⟩ := s2
        have := hsp c ⟨spc.ino, spc.nh, spc.ne, spc.no⟩ (nota c nbc)
        exact Re.putOwn hy2 this.ino this.nh this.ne oc this.no (nb2 c nbc)
    refine k _ env2 _ w x1 y H2 R3 v2 (put2 _ _ (R3.putOwn hy sp3.ino sp3.nh sp3.ne oa2 sp3.no nb) fun c spc hca => ⟨spc.ino, spc.nh, spc.ne, fun j' z ez oz sz => ?_⟩) h2
    by_cases hj : i = j'
    · subst hj
      by_cases hi : i < σ.length
      · rw [List.getElem?_set_self hi] at sz; cases sz; exact hca rfl
      · rw [List.getElem?_eq_none (by simpa using hi)] at sz; cases sz
    · rw [List.getElem?_set_ne hj] at ez sz
      exact spc.no j' z ez oz sz
  cases x1 with
  | val d =>
    refine rb Z1 env1 σ H1 _ E _ R1 h1 (fun Z2 env2 w y H2 R2 t2 s2 h2 => ?_) (x.on R1 t1)
    have s1' : RS S.G Z2 H2 v d := RS.on s1 R1 t2
    have Rp := R2.put (i := i) s1'
    have Rq : Rel S Z2 ((env2.set i (.val d)).set j y) ((σ.set i (some v)).set j (some w)) H2 := by
      cases y with
      | val d' => exact Rp.put s2
      | no => cases s2.1
      | pin _ _ _ => cases s2.1
      | own _ ys =>
        obtain ⟨hy2, c, rfl, spc, nbc, oc⟩ := s2
        exact Rp.putOwn hy2 spc.ino spc.nh spc.ne oc (spc.no.set rfl) nbc
      | ownd _ ys =>
        obtain ⟨hy2, c, rfl, spc, nbc, oc⟩ := s2
        exact Rp.putOwn hy2 spc.ino spc.nh spc.ne oc (spc.no.set rfl) nbc
    exact k Z2 env2 v w _ y H2 R2 (Tr.trans R1 t1 t2) Rq h2
  | no => cases s1.1
  | pin _ _ _ => cases s1.1
  | own _ xs =>
    obtain ⟨hy, a, rfl, sp, nb, oa⟩ := s1
    exact own a rfl hy sp nb oa
  | ownd _ xs =>
    obtain ⟨hy, a, rfl, sp, nb, oa⟩ := s1
    exact own a rfl hy sp nb oa
def wPar (Ta Tb : Tf) (i j : Nat) : Ts := fun env P => Ta env (fun x env1 => Tb env1 (fun y env2 => P.nx ((env2.set i x).set j y)) P.ex) P.ex
theorem ds_par (i j : Nat) {x y : Str} {px py pt : Pos} {kt k2 pt2} {Ta Tb : Tf} (hc : X.calm = true) (hN : X.N.Nodup) (ha : DO S X a Ta) (hb : DO S X b Tb) (hw : swappedStores [.Tuple [.Name x px, .Name y py] kt pt] (.Tuple [a, b] k2 pt2) X.env = pure (some [x, y]))
    (hi : X.N[i]? = some x := by rfl) (hj : X.N[j]? = some y := by rfl) (hij : i ≠ j := by decide) (hx : X.env.scope.names.lookup x = some .local := by rfl) (hy : X.env.scope.names.lookup y = some .local := by rfl)
    (hs : swapsWithSole [.Tuple [.Name x px, .Name y py] kt pt] (.Tuple [a, b] k2 pt2) pos.line X.env = pure false := by rfl)
    (hst : starEach [a, b] X.env = (false, eval a X.env) :: starEach [b] X.env := by rfl) (hst2 : starEach [b] X.env = (false, eval b X.env) :: starEach [] X.env := by rfl) :
    DS S X (.Assign [.Tuple [.Name x px, .Name y py] kt pt] (.Tuple [a, b] k2 pt2) pos) (wPar Ta Tb i j) := ⟨fun W tk pa => by
  obtain ⟨ta, pa', ra⟩ := ha.run W tk
  obtain ⟨tb, pb, rb⟩ := hb.run W tk
  refine ⟨_, ps_par hc hN hi hj hij hx hy (pa_cons pa' (pa_cons pb pa_nil hst2) hst) hw hs, fun Z env σ H P D' R hT f => ?_⟩
  exact pair_read (K' := fun v w H2 => ∃ v1 w1, [v, w] = [v1, w1] ∧ D'.nx ((σ.set i (some v1)).set j (some w1)) H2) ra rb R ((f.ex σ).ok R) hT i j
    (fun Z' env' v w x1 y1 H' R' vl Rij h2 => ⟨v, w, rfl, f.nx Z' _ _ H' Rij (R.vle vl) h2⟩)⟩
/-! ### loops -/
/-- a for's turns -/
def forGo (g : Tg) (B : Ts) (P : Post) : List D → Env → Prop
  | [], env => P.nx env
  | x :: xs, env => g x env fun env1 => B env1 { P with nx := fun env2 => forGo g B P xs env2, ct := fun env2 => forGo g B P xs env2, bk := P.nx }
def wFor (T : Ti) (g : Tg) (B : Ts) : Ts := fun env P => T env (fun xs env1 => forGo g B P xs env1) P.ex
theorem ds_for {tg iter : Expr} {body : List Stmt} {T : Ti} {g : Tg} {ix : List Nat} (hc : X.calm = true) (hi : DI S Vle X tg iter T) (hg : DG S X tg ix g) (hb : DSs S X body B) (hs : ∀ x, foldedSetIterable iter X.env x = pure x := by intro _; rfl) :
    DS S X (.For tg iter body [] pos) (wFor T g B) := ⟨fun W tk pa => by
  obtain ⟨wi, pi, qi⟩ := hi.run W tk
  obtain ⟨tg', pg, qg⟩ := hg.run
  obtain ⟨tb, pb, qb⟩ := hb.run W tk pa
  refine ⟨_, ps_for pa hc pi pg pb hs, fun Z env σ H P D' R hT f => ?_⟩
  refine qi Z env σ H _ _ _ R hT (fun Z1 env1 J items H1 R1 t1 y h1 => ?_) ((f.ex σ).ok R)
  have f1 := f.on (R.vle t1)
  let Inv : Nat → L2.St → Hp → Prop := fun i σ H => ∃ Z' env', Rel S Z' env' σ H ∧ Vle Z1 H1 Z' H ∧ forGo g B P (items.drop i) env'
  refine ⟨fun i m σ H => m = items.length - i ∧ i ≤ items.length ∧ Inv i σ H, ⟨_, rfl, Nat.zero_le _, Z1, env1, R1, .refl, h1⟩, ?_⟩
  rintro i m σ2 H2 ⟨rfl, hi', Z2, env2, R2, v2, hgo⟩
  by_cases hlt : i < items.length
  · refine .inr ⟨y.go Z2 H2 i v2 hlt, Inv (i + 1), fun σ' H' h => ⟨items.length - (i + 1), by omega, rfl, hlt, h⟩, fun x H3 hy => ?_⟩
    obtain ⟨sm, hx⟩ := y.yld Z2 H2 i x H3 v2 R2.oin hlt hy
    rw [List.drop_eq_getElem_cons hlt] at hgo
    have R3 := R2.grow sm
    have v3 : Vle Z1 H1 Z2 H3 := v2.trans (R2.vle (.alloc sm))
    refine qg Z2 env2 σ2 H3 x _ _ _ R3 (hx _ (List.getElem?_eq_getElem hlt)) hgo fun env4 σ4 R4 _ h4 => ?_
    have fb := f1.on v3
    exact qb Z2 env4 σ4 H3 _ { D' with nx := Inv (i + 1), ct := Inv (i + 1), bk := D'.nx } R4 h4
      ⟨fun Z5 e5 s5 H5 R5 v5 h5 => ⟨Z5, e5, R5, v3.trans v5, h5⟩, fb.rt, fb.nx, fun Z5 e5 s5 H5 R5 v5 h5 => ⟨Z5, e5, R5, v3.trans v5, h5⟩, fb.ex, fb.rf⟩
  · have e : i = items.length := by omega
    subst e
    rw [List.drop_length] at hgo
    exact .inl ⟨y.stop Z2 H2 v2, f1.nx Z2 env2 σ2 H2 R2 v2 hgo⟩⟩
/-- a while's turns, at most n -/
def whGo (A : Tt) (B : Ts) (P : Post) : Nat → Env → Prop
  | 0, _ => False
  | n + 1, env => A env (fun k env1 => if k = true then B env1 { P with nx := fun env2 => whGo A B P n env2, ct := fun env2 => whGo A B P n env2, bk := P.nx } else P.nx env1) P.ex
def wWh (A : Tt) (B : Ts) : Ts := fun env P => ∃ n, whGo A B P n env
theorem ds_while {c : Expr} {body : List Stmt} (hc : DT S X c A) (hb : DSs S X body B) : DS S X (.While c body [] pos) (wWh A B) := ⟨fun W tk pa => by
  obtain ⟨tc, pc, qc⟩ := hc.run W tk
  obtain ⟨tb, pb, qb⟩ := hb.run W tk pa
  refine ⟨_, ps_while pa pc pb, fun Z env σ H P D' R hT f => ?_⟩
  obtain ⟨n, hn⟩ := hT
  let Inv : Nat → L2.St → Hp → Prop := fun m σ' H' => ∃ Z' env', Rel S Z' env' σ' H' ∧ Vle Z H Z' H' ∧ whGo A B P m env'
  refine ⟨Inv, ⟨n, Z, env, R, .refl, hn⟩, ?_⟩
  rintro m σ2 H2 ⟨Z2, env2, R2, v2, hgo⟩
  have f2 := f.on v2
  cases m with
  | zero => exact hgo.elim
  | succ m =>
    refine qc Z2 env2 σ2 H2 _ _ _ R2 hgo (fun Z3 env3 k H3 R3 t3 h3 => ?_) ((f2.ex σ2).ok R2)
    have v3 : Vle Z H Z3 H3 := v2.trans (R2.vle t3)
    have f3 := f.on v3
    cases k with
    | true =>
      refine iteT ?_
      rw [if_pos rfl] at h3
      exact ⟨Inv m, fun σ' H' h => ⟨m, Nat.lt_succ_self m, h⟩, qb Z3 env3 σ2 H3 _ { D' with nx := Inv m, ct := Inv m, bk := D'.nx } R3 h3
        ⟨fun Z5 e5 s5 H5 R5 v5 h5 => ⟨Z5, e5, R5, v3.trans v5, h5⟩, f3.rt, f3.nx, fun Z5 e5 s5 H5 R5 v5 h5 => ⟨Z5, e5, R5, v3.trans v5, h5⟩, f3.ex, f3.rf⟩⟩
    | false =>
      refine iteF ?_
      rw [if_neg Bool.false_ne_true] at h3
      exact f3.nx Z3 env3 σ2 H3 R3 .refl h3⟩
/-! ### own lists changed -/
/-- x.append(e) -/
def wApp (i : Nat) (T : Tm) : Ts := fun env P => (∃ a xs, env[i]? = some (.own a xs)) ∧ T env (fun d env1 => ∃ a xs, env1[i]? = some (.own a xs) ∧ xs.length < big ∧ P.nx (env1.set i (.own a (xs ++ [d])))) P.ex
theorem ds_app (i : Nat) {x : Str} {px apos cpos : Pos} (h : DE S X e Te) (hN : X.N[i]? = some x := by rfl) (hv : Vis X.env.scope x := by first | exact Or.inl rfl | exact Or.inr (Or.inl rfl) | exact Or.inr (Or.inr rfl))
    (hbase : attributeBase (.Name x px) "append" X.env (eval (.Name x px) X.env) = eval (.Name x px) X.env := by rfl)
    (hfew : ((backTo cpos (starEach (e :: []) X.env)).all (fun x => !x.1) && (backToKw cpos (keywordEach [] X.env)).all (fun x => x.1.isSome)
      && decide ((e :: []).length + ([] : List Keyword).length + (if ([] : List Keyword).isEmpty then 0 else 1) < 30)) = true := by rfl)
    (hline : (apos.endLine == cpos.line) = true := by rfl) (hst : starEach (e :: []) X.env = (false, eval e X.env) :: starEach [] X.env := by rfl) (hplain : (backTo cpos (starEach [] X.env)).any (·.1) = false := by rfl)
    (hs : swapsWith (.Call (.Attribute (.Name x px) "append" apos) [e] [] cpos) none pos.line X.env = pure false := by rfl)
    (hd : (x == ("__debug__" : Str)) = false := by decide) (hcd : (x == ("__classdict__" : Str)) = false := by decide) :
    DS S X (.Expr (.Call (.Attribute (.Name x px) "append" apos) [e] [] cpos) pos) (wApp i Te) := ⟨fun W tk pa => by
  obtain ⟨t, p, q⟩ := h.run W tk
  refine ⟨_, ps_expr (pe_bm PySem.F.plainAttrs_list PySem.F.slot_list_append PySem.F.type_list_append mt_append (pe_var hN hv hd hcd) (pa_cons p pa_nil hst) hbase hfew hline hst hplain) hs, fun Z env σ H P D' R hT f => ?_⟩
  obtain ⟨⟨a, xs0, e0⟩, hT⟩ := hT
  obtain ⟨vs0, es, a1, a2, a3, a4, a5⟩ := R.slots i _ e0
  refine ⟨_, es, .inl ⟨rfl, _, SqL.of a4⟩, ?_⟩
  refine q Z env σ H _ _ _ R hT (fun Z1 env1 v d H1 R1 t1 r1 h1 => ?_) ((f.ex σ).ok R)
  obtain ⟨b, xs, e1, hz, h1⟩ := h1
  obtain ⟨vs, es1, b1, b2, b3, b4, b5⟩ := R1.slots i _ e1
  rw [es] at es1; cases es1
  refine ⟨a, vs, v, rfl, rfl, b4, by rw [b5.length, sizeLine_eq]; unfold big at hz; omega, ?_⟩
  have R2 := R1.write (y := .own a (xs ++ [d])) (o := .lst (vs ++ [v])) e1 rfl rfl es ⟨rfl, _, upd_same, by rw [vis_upd_in b1]; exact b5.append (.cons r1 .nil)⟩
  exact f.nx Z1 _ σ _ R2 ((R.vle t1).trans ⟨fun b o e => by rw [vis_upd_in b1]; exact e, fun _ h => h⟩) h1⟩
/-- x.extend(a list) -/
def wExt (i : Nat) (T : Tm) : Ts := fun env P => (∃ a xs, env[i]? = some (.own a xs)) ∧ T env (fun d env1 => ∃ a xs ys, env1[i]? = some (.own a xs) ∧ d = .lst ys ∧ xs.length + ys.length ≤ big ∧ P.nx (env1.set i (.own a (xs ++ ys)))) P.ex
theorem ds_ext (i : Nat) {x : Str} {px apos cpos : Pos} (h : DB S X e Te) (hN : X.N[i]? = some x := by rfl) (hv : Vis X.env.scope x := by first | exact Or.inl rfl | exact Or.inr (Or.inl rfl) | exact Or.inr (Or.inr rfl))
    (hbase : attributeBase (.Name x px) "extend" X.env (eval (.Name x px) X.env) = eval (.Name x px) X.env := by rfl)
    (hfew : ((backTo cpos (starEach (e :: []) X.env)).all (fun x => !x.1) && (backToKw cpos (keywordEach [] X.env)).all (fun x => x.1.isSome)
      && decide ((e :: []).length + ([] : List Keyword).length + (if ([] : List Keyword).isEmpty then 0 else 1) < 30)) = true := by rfl)
    (hline : (apos.endLine == cpos.line) = true := by rfl) (hst : starEach (e :: []) X.env = (false, eval e X.env) :: starEach [] X.env := by rfl) (hplain : (backTo cpos (starEach [] X.env)).any (·.1) = false := by rfl)
    (hs : swapsWith (.Call (.Attribute (.Name x px) "extend" apos) [e] [] cpos) none pos.line X.env = pure false := by rfl)
    (hd : (x == ("__debug__" : Str)) = false := by decide) (hcd : (x == ("__classdict__" : Str)) = false := by decide) :
    DS S X (.Expr (.Call (.Attribute (.Name x px) "extend" apos) [e] [] cpos) pos) (wExt i Te) := ⟨fun W tk pa => by
  obtain ⟨t, p, q⟩ := h.run W tk
  refine ⟨_, ps_expr (pe_bm PySem.F.plainAttrs_list PySem.F.slot_list_extend PySem.F.type_list_extend mt_extend (pe_var hN hv hd hcd) (pa_cons p pa_nil hst) hbase hfew hline hst hplain) hs, fun Z env σ H P D' R hT f => ?_⟩
  obtain ⟨⟨a, xs0, e0⟩, hT⟩ := hT
  obtain ⟨vs0, es, a1, a2, a3, a4, a5⟩ := R.slots i _ e0
  refine ⟨_, es, .inl ⟨rfl, _, SqL.of a4⟩, ?_⟩
  refine q Z env σ H _ _ _ R hT (fun Z1 env1 v d H1 R1 t1 r1 h1 => ?_) ((f.ex σ).ok R)
  obtain ⟨b, xs, ys, e1, rfl, hz, h1⟩ := h1
  obtain ⟨vs, es1, b1, b2, b3, b4, b5⟩ := R1.slots i _ e1
  rw [es] at es1; cases es1
  obtain ⟨c, ws, rfl, ec, rc⟩ := r1.lst
  refine ⟨a, c, vs, ws, rfl, rfl, b4, ec, by rw [b5.length, rc.length]; exact big_line hz, ?_⟩
  have R2 := R1.write (y := .own a (xs ++ ys)) (o := .lst (vs ++ ws)) e1 rfl rfl es ⟨rfl, _, upd_same, by rw [vis_upd_in b1]; exact b5.append rc⟩
  exact f.nx Z1 _ σ _ R2 ((R.vle t1).trans ⟨fun b o e => by rw [vis_upd_in b1]; exact e, fun _ h => h⟩) h1⟩
/-- x[i] = e of an own list -/
def wSetIx (i : Nat) (Te Ti' : Tm) : Ts := fun env P => Te env (fun d env1 => (∃ a xs, env1[i]? = some (.own a xs)) ∧ Ti' env1 (fun k env2 => ∃ a xs n j, env2[i]? = some (.own a xs) ∧ k = .int n ∧ ixN xs.length n = some j ∧ P.nx (env2.set i (.own a (xs.set j d)))) P.ex) P.ex
theorem ds_setix (i : Nat) {x : Str} {px p' : Pos} {ie : Expr} {Tk : Tm} (he : DE S X e Te) (hi : DB S X ie Tk) (hN : X.N[i]? = some x := by rfl) (hv : Vis X.env.scope x := by first | exact Or.inl rfl | exact Or.inr (Or.inl rfl) | exact Or.inr (Or.inr rfl))
    (hs : swapsWithSole [.Subscript (.Name x px) ie p'] e pos.line X.env = pure false := by rfl) (hw : swappedStores [.Subscript (.Name x px) ie p'] e X.env = pure none := by rfl)
    (h1 : (assignEach [.Subscript (.Name x px) ie p'] X.env).map (·.2) = [assign (.Subscript (.Name x px) ie p') X.env] := by rfl)
    (ha : ∀ v, assign (.Subscript (.Name x px) ie p') X.env v = (do
      let ov ← holding [v] (eval (.Name x px) X.env)
      let iv ← holding [v, ov] (eval ie X.env)
      standAt p'
      holding [v, ov, iv] (setItem ov iv v)
      release [v, ov, iv] []) := by intro _; rfl)
    (hd : (x == ("__debug__" : Str)) = false := by decide) (hcd : (x == ("__classdict__" : Str)) = false := by decide) :
    DS S X (.Assign [.Subscript (.Name x px) ie p'] e pos) (wSetIx i Te Tk) := ⟨fun W tk pa => by
  obtain ⟨t, p, q⟩ := he.run W tk
  obtain ⟨tk', pk, qk⟩ := hi.run W tk
  refine ⟨_, ps_asg p (pg_sub (pe_var hN hv hd hcd) pk set_list ha) hs hw h1, fun Z env σ H P D' R hT f => ?_⟩
  refine q Z env σ H _ _ _ R hT (fun Z1 env1 v d H1 R1 t1 r1 h1 => ?_) ((f.ex σ).ok R)
  obtain ⟨⟨a, xs0, e0⟩, h1⟩ := h1
  obtain ⟨vs0, es, a1, a2, a3, a4, a5⟩ := R1.slots i _ e0
  refine ⟨_, es, ?_⟩
  refine qk Z1 env1 σ H1 _ _ _ R1 h1 (fun Z2 env2 w k H2 R2 t2 r2 h2 => ?_) (((f.ex σ).on (R.vle t1)).ok R1)
  obtain ⟨b, xs, n, j, e1, rfl, hj, h2⟩ := h2
  obtain ⟨vs, es1, b1, b2, b3, b4, b5⟩ := R2.slots i _ e1
  rw [es] at es1; cases es1
  refine ⟨a, vs, n, j, rfl, r2.int, b4, by rw [b5.length]; exact hj, ?_⟩
  have R3 := R2.write (y := .own a (xs.set j d)) (o := .lst (vs.set j v)) e1 rfl rfl es ⟨rfl, _, upd_same, by rw [vis_upd_in b1]; exact b5.set (RS.on r1 R1 t2) j⟩
  exact f.nx Z2 _ σ _ R3 (((R.vle t1).trans (R1.vle t2)).trans ⟨fun b o e => by rw [vis_upd_in b1]; exact e, fun _ h => h⟩) h2⟩
/-- x += e -/
def wAug (i : Nat) (T : Tm) (fn : Int → Int → Int) : Ts := fun env P => ∃ n, env[i]? = some (.val (.int n)) ∧ T env (fun d env1 => ∃ m, d = .int m ∧ P.nx (env1.set i (.val (.int (fn n m))))) P.ex
theorem ds_aug (i : Nat) {x : Str} {p' : Pos} {op : Operator} {fn : Int → Int → Int} (ho : PIp X op (ipI fn)) (hN : X.N.Nodup) (h : DE S X e Te) (hi : X.N[i]? = some x := by rfl) (hx : Loc X.env.scope x := by first | exact Or.inl rfl | exact Or.inr rfl)
    (hf : X.fn x = true ∨ X.env.scope.names.lookup x = some .local := by first | exact .inl rfl | exact .inr rfl) : DS S X (.AugAssign (.Name x p') op e pos) (wAug i Te fn) := ⟨fun W tk pa => by
  obtain ⟨t, p, q⟩ := h.run W tk
  refine ⟨_, ps_aug hN hi hx p ho hf, fun Z env σ H P D' R hT f => ?_⟩
  obtain ⟨n, e0, hT⟩ := hT
  obtain ⟨v, es, r⟩ := R.slots i _ e0
  cases r
  refine ⟨_, es, ?_⟩
  refine q Z env σ H _ _ _ R hT (fun Z1 env1 v d H1 R1 t1 r1 h1 => ?_) ((f.ex σ).ok R)
  obtain ⟨m, rfl, h1⟩ := h1
  exact ⟨n, m, rfl, RB.int (.inl r1), f.nx Z1 _ _ H1 (R1.put (.int _)) (R.vle t1) h1⟩⟩
end
/-! ### a def -/
/-- what a body is worth: its slots at the entry, its end -/
def wFn (n : Nat) (B : Ts) : Fn := fun ds Q E => B (ds.map Sl.val ++ List.replicate (n - ds.length) .no) { nx := fun _ => Q .non, rt := fun d _ => Q d, bk := fun _ => False, ct := fun _ => False, ex := fun er _ => E er }
theorem entry_rel {G : Pg} {Z : Zs} {H : Hp} {vs : List V} {ds : List D} {N : List Str} (oin : ∀ a ∈ Z.O, H a ≠ none) (hh : ∀ a, Z.h = some a → HandOk Z.O H a) (r : RepL G (vis Z.O H) Z.h vs ds) (hl : vs.length = ds.length) (tt : LamX.Tabs G.T H) :
    Rel ⟨G, Z, H⟩ ⟨Z.O, Z.h, []⟩ (ds.map Sl.val ++ List.replicate (N.length - ds.length) .no) (L2.start N vs) H := by
  refine ⟨oin, fun _ h => h, hh, rfl, fun b o e _ => .of e, oin, fun a h => .inl h, ?_, fun i x e => ?_, fun i j x y a e1 _ o1 _ _ _ => ?_, fun a ha => absurd ha (by simp), tt, fun a h => .inl h⟩
  · unfold L2.start
    simp [hl]
  · by_cases hi : i < ds.length
    · rw [List.getElem?_append_left (by simpa using hi), List.getElem?_map, List.getElem?_eq_getElem hi] at e
      cases e
      obtain ⟨v, ev, rv⟩ := r.get (List.getElem?_eq_getElem hi)
      refine ⟨v, ?_, rv⟩
      unfold L2.start
      rw [List.getElem?_append_left (by rw [List.length_map]; omega), List.getElem?_map, ev]
      rfl
    · rw [List.getElem?_append_right (by simpa using hi), List.getElem?_replicate] at e
      split at e
      · cases e; trivial
      · cases e
  · by_cases hi : i < ds.length
    · rw [List.getElem?_append_left (by simpa using hi), List.getElem?_map, List.getElem?_eq_getElem hi] at e1
      cases e1; cases o1
    · rw [List.getElem?_append_right (by simpa using hi), List.getElem?_replicate] at e1
      split at e1
      · cases e1; cases o1
      · cases e1
/-- back at the caller: what the def leaves visible is visible there -/
theorem exit_vle {S : Ent} {Z' : Zs} {env : Env} {σ : L2.St} {H' : Hp} (R : Rel S Z' env σ H') : Same (vis Z'.O H') (vis S.Z.O H') := fun b o e => by
  obtain ⟨h1, h2⟩ := vis_some e
  exact vis_out (fun z => h1 (R.sub b z)) h2 (vis_nt e)
theorem exit_hand {S : Ent} {Z' : Zs} {env : Env} {σ : L2.St} {H' : Hp} (R : Rel S Z' env σ H') (hh : ∀ a, S.Z.h = some a → a ∈ S.Z.O) : ∀ a, S.Z.h = some a → HandOk S.Z.O H' a := fun a ha =>
  (R.hnd a (R.hsub.trans ha)).mono (hh a ha) (fun c nc _ z => nc (R.sub c z)) fun b o q _ => q
/-- THE RULE of a def -/
theorem fn_ok {P : Program} {w : World} {G : Pg} {mg : Str → Option Value} {base : Heap} {x qual : Str} {st : Stmt} {f : Addr} {fd : FuncData} {N ps : List Str} {k n : Nat} {B : Ts} (F : Fun G.K x qual st f fd) (Sc : FnScope N ps (defScope st)) (hn : n = ps.length)
    (hbody : ∀ (cdv : Value) (A : Around) (outer : List PySem.Env) (s : Shared) (H : Hp) (E : XK) (S : Ent), S.G = G → Room k (A.deeper (envOfC qual (defScope st) s.heap.objs.size f cdv)) →
      DSs S (cxOf (L2.CX P w) P w G.K mg base N qual (defScope st) f cdv A outer s H E) (defBody st) B) : FnOk P w G.K mg base (L2.CX P w) (k + 1) f fd ps (spD G n (wFn N.length B)) := by
  refine F.okX Sc (fun vs H Q E h => ?_) fun cdv A outer s H vs Q E hr h => ?_
  · obtain ⟨_, _, _, _, hl, _⟩ := h
    rw [hl, hn]
  · obtain ⟨Z, ds, Qd, Ed, hl, hl2, oin, hh, r, tt, hT, kq, ke⟩ := h
    have R := entry_rel (N := N) oin hh r (hl.trans hl2.symm) tt
    obtain ⟨t, p, q⟩ := (hbody cdv A outer s H E ⟨G, Z, H⟩ rfl hr).run (fun cls d _ H => E cls d H) (takes_of rfl rfl rfl rfl) PassesOwn.leaving
    have hin : ∀ a, Z.h = some a → a ∈ Z.O := fun a ha => (hh a ha).1
    refine ⟨t, p, q _ _ _ H _ _ R hT ⟨fun Z' e s H' R' v h => ?_, fun Z' e s v d H' R' vl rv h => ?_, fun _ _ _ _ _ _ h => h.elim, fun _ _ _ _ _ _ h => h.elim, fun σ' Z' e cls dd er H' R' vl eo h => ?_, fun _ _ _ _ _ _ _ _ _ _ _ h => h.elim⟩⟩
    · exact kq _ _ H' R'.frame (exit_hand R' hin) R'.tabs .non h
    · refine kq d v H' R'.frame (exit_hand R' hin) R'.tabs ?_ h
      exact Rep.mono (exit_vle R') (fun a ha => R'.hsub.symm.trans ha) rv
    · refine ke er cls dd H' R'.frame (exit_hand R' hin) R'.tabs ?_ h
      obtain ⟨C, e1, e2, e3⟩ := eo
      exact ⟨C, e1, e2, e3.mono (exit_vle R') fun a ha => R'.hsub.symm.trans ha⟩
end DV

set_option Elab.async false
set_option linter.all false
set_option maxRecDepth 100000
/-! DV7: the hand: its making, a draw; the law's own def. -/
namespace DV
open PySem PySem.Spec PyProof.Rows L2

/-- a draw below m -/
def wDraw : Fn := fun ds Q _ => ∃ m : Int, ds = [.hand, .int m] ∧ 0 < m ∧ m < 1180591620717411303424 ∧ ∀ d : Int, 0 ≤ d → d < m → Q (.int d)
def handL (cells : List Int) (p : Nat) (big st cnt : Int) : List D := [.lst (cells.map D.int), .int p, .int big, .int st, .int cnt]
theorem repL_hand {G : Pg} {H : Hp} {hh : Option Addr} {vs : List V} {cells : List Int} {p : Nat} {big st cnt : Int} (r : RepL G H hh vs (handL cells p big st cnt)) : ∃ c, vs = [.ref c, .int p, .int big, .int st, .int cnt] ∧ H c = some (.lst (cells.map V.int)) := by
  cases r with
  | cons r1 r =>
    cases r with
    | cons r2 r =>
      cases r with
      | cons r3 r =>
        cases r with
        | cons r4 r =>
          cases r with
          | cons r5 r =>
            cases r
            cases r1 with
            | lst e rl =>
              cases r2
              cases r3
              cases r4
              cases r5
              rw [rl.ints] at e
              exact ⟨_, rfl, e⟩
section
variable {P : Program} {w : World} {G : Pg} {mg : Str → Option Value} {base : Heap} {x qual : Str} {st : Stmt} {f : Addr} {fd : FuncData} {N ps : List Str} {k : Nat} {B : Ts}
theorem draw_fn (F : Fun G.K x qual st f fd) (Sc : FnScope N ps (defScope st)) (hn : 2 = ps.length) (hN : 2 ≤ N.length)
    (hbody : ∀ (cdv : Value) (A : Around) (outer : List PySem.Env) (s : Shared) (H : Hp) (E : XK) (S : Ent), S.G = G → Room k (A.deeper (envOfC qual (defScope st) s.heap.objs.size f cdv)) →
      DSs S (cxOf (L2.CX P w) P w G.K mg base N qual (defScope st) f cdv A outer s H E) (defBody st) B)
    (hB : ∀ (h : Addr) (cells : List Int) (p : Nat) (big st cnt m : Int), (∀ x ∈ cells, 0 ≤ x) → 0 ≤ big → 0 ≤ st → 0 ≤ cnt → st < 9223372036854775808 → 0 < m → m < 1180591620717411303424 → ∀ Q : Post,
      (∀ (k : Int) (p' : Nat) (big' st' cnt' : Int) (r : Env), 0 ≤ k → k < m → 0 ≤ big' → 0 ≤ st' → 0 ≤ cnt' → st' < 9223372036854775808 → Q.rt (.int k) (.own h (handL cells p' big' st' cnt') :: r)) →
      B (.own h (handL cells p big st cnt) :: .val (.int m) :: List.replicate (N.length - 2) .no) Q) : FnOk P w G.K mg base (L2.CX P w) (k + 1) f fd ps (spD G 2 wDraw) := by
  refine F.okX Sc (fun vs H Q E h => ?_) fun cdv A outer s H vs Q E hr h => ?_
  · obtain ⟨_, _, _, _, hl, _⟩ := h
    rw [hl, hn]
  · obtain ⟨Z, ds, Qd, Ed, hl, hl2, oin, hh, r, tt, ⟨m, rfl, m0, m1, hq⟩, kq, ke⟩ := h
    cases r with
    | cons r1 r =>
      cases r with
      | cons r2 r =>
        cases r
        cases r2
        cases r1 with
        | @hand h0 eh =>
          obtain ⟨hin, c, cells, p, bg, st0, cnt, e1, nc, e2, q1, q2, q3, q4, q5⟩ := hh h0 eh
          have hsub : ∀ a, a ∈ Z.O.filter (fun b => decide (b ≠ h0)) ↔ a ∈ Z.O ∧ a ≠ h0 := fun a => by simp
          let S' : Ent := ⟨G, ⟨Z.O.filter fun b => decide (b ≠ h0), none, []⟩, fun b => if b = h0 then none else H b⟩
          have sH : ∀ b, b ≠ h0 → S'.H b = H b := fun b hb => if_neg hb
          have R : Rel S' ⟨Z.O, none, []⟩ (.own h0 (handL cells p bg st0 cnt) :: .val (.int m) :: List.replicate (N.length - 2) .no) (L2.start N [.ref h0, .int m]) H := by
            refine ⟨oin, fun a ha => ((hsub a).mp ha).1, fun a ha => (nomatch ha), rfl, fun b o e _ => ?_, fun a ha => ?_, fun a ha => (nomatch ha), ?_, fun i y e => ?_, fun i j y z a ey ez oy oz _ _ => ?_, fun a ha => absurd ha (by simp), tt, fun a ha => if hz : a = h0 then .inr (if_pos hz) else .inl ((hsub a).mpr ⟨ha, hz⟩)⟩
            · by_cases hb : b = h0
              · subst hb
                have z : (none : Option HO) = some o := (if_pos rfl).symm.trans e
                cases z
              · rw [sH b hb] at e; exact .of e
            · obtain ⟨h1, h2⟩ := (hsub a).mp ha
              rw [sH a h2]; exact oin a h1
            · unfold L2.start
              simp
            · match i with
              | 0 =>
                cases e
                refine ⟨_, rfl, hin, (fun z => nomatch z), if_pos rfl, e1, ?_⟩
                exact .cons (.lst (vis_out nc e2) (RepL.of_ints cells)) (.cons (.int _) (.cons (.int _) (.cons (.int _) (.cons (.int _) .nil))))
              | 1 =>
                cases e
                exact ⟨.int m, rfl, .int m⟩
              | i + 2 =>
                rw [List.getElem?_cons_succ, List.getElem?_cons_succ, List.getElem?_replicate] at e
                split at e
                · cases e; trivial
                · cases e
            · have key : ∀ (i : Nat) (y : Sl), ((.own h0 (handL cells p bg st0 cnt) :: .val (.int m) :: List.replicate (N.length - 2) .no) : Env)[i]? = some y → y.owns = true → i = 0 := fun i y e o => by
                match i with
                | 0 => rfl
                | 1 => cases e; cases o
                | i + 2 =>
                  rw [List.getElem?_cons_succ, List.getElem?_cons_succ, List.getElem?_replicate] at e
                  split at e
                  · cases e; cases o
                  · cases e
              rw [key i y ey oy, key j z ez oz]
          obtain ⟨t, pp, q⟩ := (hbody cdv A outer s H E S' rfl hr).run (fun cls d _ H => E cls d H) (takes_of rfl rfl rfl rfl) PassesOwn.leaving
          refine ⟨t, pp, q _ _ _ H { nx := fun _ => False, rt := fun d env => ∃ k p' big' st' cnt' r, d = .int k ∧ 0 ≤ k ∧ k < m ∧ 0 ≤ big' ∧ 0 ≤ st' ∧ 0 ≤ cnt' ∧ st' < 9223372036854775808 ∧ env = .own h0 (handL cells p' big' st' cnt') :: r, bk := fun _ => False, ct := fun _ => False, ex := fun _ _ => False } _ R
            (hB h0 cells p bg st0 cnt m q1 q2 q3 q4 q5 m0 m1 _ fun k p' b' s' c' r g1 g2 g3 g4 g5 g6 => ⟨k, p', b', s', c', r, rfl, g1, g2, g3, g4, g5, g6, rfl⟩)
            ⟨fun _ _ _ _ _ _ h => h.elim, fun Z' e σ' v d H' R' vl rv h => ?_, fun _ _ _ _ _ _ h => h.elim, fun _ _ _ _ _ _ h => h.elim, fun _ _ _ _ _ _ _ _ _ _ h => h.elim, fun _ _ _ _ _ _ _ _ _ _ _ h => h.elim⟩⟩
          obtain ⟨k', p', b', s', c', rr, rfl, g1, g2, g3, g4, g5, g6, rfl⟩ := h
          obtain ⟨vs', es, o1, o2, o3, o4, o5⟩ := R'.slots 0 _ rfl
          obtain ⟨c2, rfl, ec⟩ := repL_hand o5
          obtain ⟨nc2, ec2⟩ := vis_some ec
          refine kq _ v H' (fun b o e n => ?_) (fun a ha => ?_) R'.tabs (by cases rv; exact .int _) (hq k' g1 g2)
          · have hb : b ≠ h0 := fun z => n (by rw [z]; exact eh)
            exact R'.frame b o (by rw [sH b hb]; exact e) (fun z => nomatch z)
          · rw [eh] at ha; cases ha
            refine ⟨hin, c2, cells, p', b', s', c', o4, fun z => nc2 ?_, ec2, q1, g3, g4, g5, g6⟩
            by_cases hc : c2 = h0
            · rw [hc]; exact o1
            · exact R'.sub c2 ((hsub c2).mpr ⟨z, hc⟩)
theorem sqL_vis {K : PySem.W.Frag} {H : Hp} {a : Addr} {xs : List V} (h : SqL K H a xs) : SqL K (vis [] H) a xs := by
  rcases h with (h | ⟨o, h⟩) | h
  · exact .inl (.inl (vis_out (by simp) h))
  · exact .inl (.inr ⟨o, vis_out (by simp) h⟩)
  · exact .inr h
/-- the hand's making -/
def handSp (G : Pg) : Sp := fun vs H Q _ => ∃ (a : Addr) (ns : List Int), vs = [.ref a] ∧ SqL G.K H a (ns.map V.int) ∧ ns.length ≤ 63 ∧ LamX.Tabs G.T H ∧ ∀ p H', LamX.Tabs G.T H' → HandOk [p] H' p → Q (.ref p) H'
theorem hand_fn (F : Fun G.K x qual st f fd) (Sc : FnScope N ps (defScope st)) (hn : 1 = ps.length) (hN : 1 ≤ N.length)
    (hbody : ∀ (cdv : Value) (A : Around) (outer : List PySem.Env) (s : Shared) (H : Hp) (E : XK) (S : Ent), S.G = G → Room k (A.deeper (envOfC qual (defScope st) s.heap.objs.size f cdv)) →
      DSs S (cxOf (L2.CX P w) P w G.K mg base N qual (defScope st) f cdv A outer s H E) (defBody st) B)
    (hB : ∀ (ns : List Int), ns.length ≤ 63 → ∀ Q : Post,
      (∀ (a : Addr) (cells : List Int) (seed : Int) (r : Env), (∀ x ∈ cells, 0 ≤ x) → 0 ≤ seed → seed < 9223372036854775808 → Q.rf (.own a (handL cells 0 0 seed 0)) r) →
      B (.val (.frz (ns.map D.int)) :: List.replicate (N.length - 1) .no) Q) : FnOk P w G.K mg base (L2.CX P w) (k + 1) f fd ps (handSp G) := by
  refine F.okX Sc (fun vs H Q E h => ?_) fun cdv A outer s H vs Q E hr h => ?_
  · obtain ⟨_, _, rfl, _⟩ := h
    exact hn
  · obtain ⟨a, ns, rfl, sq, hl, tt, kq⟩ := h
    have R : Rel ⟨G, ⟨[], none, []⟩, H⟩ ⟨[], none, []⟩ (.val (.frz (ns.map D.int)) :: List.replicate (N.length - 1) .no) (L2.start N [.ref a]) H := by
      refine ⟨fun _ h => absurd h (by simp), fun _ h => h, fun a ha => (nomatch ha), rfl, fun b o e _ => .of e, fun _ h => absurd h (by simp), fun a ha => (nomatch ha), ?_, fun i y e => ?_, fun i j y z a ey ez oy oz _ _ => ?_, fun a ha => absurd ha (by simp), tt, fun a ha => absurd ha (by simp)⟩
      · unfold L2.start
        simp
      · match i with
        | 0 =>
          cases e
          exact ⟨_, rfl, .frz (sqL_vis sq) (RepL.of_ints ns)⟩
        | i + 1 =>
          rw [List.getElem?_cons_succ, List.getElem?_replicate] at e
          split at e
          · cases e; trivial
          · cases e
      · match i with
        | 0 => cases ey; cases oy
        | i + 1 =>
          rw [List.getElem?_cons_succ, List.getElem?_replicate] at ey
          split at ey
          · cases ey; cases oy
          · cases ey
    obtain ⟨t, pp, q⟩ := (hbody cdv A outer s H E ⟨G, ⟨[], none, []⟩, H⟩ rfl hr).run (fun cls d _ H => E cls d H) (takes_of rfl rfl rfl rfl) PassesOwn.leaving
    refine ⟨t, pp, q _ _ _ H { nx := fun _ => False, rt := fun _ _ => False, bk := fun _ => False, ct := fun _ => False, ex := fun _ _ => False, rf := fun y _ => ∃ a cells seed, y = .own a (handL cells 0 0 seed 0) ∧ (∀ x ∈ cells, 0 ≤ x) ∧ 0 ≤ seed ∧ seed < 9223372036854775808 } _ R
      (hB ns hl _ fun a cells seed r g1 g2 g3 => ⟨a, cells, seed, rfl, g1, g2, g3⟩)
      ⟨fun _ _ _ _ _ _ h => h.elim, fun _ _ _ _ _ _ _ _ _ h => h.elim, fun _ _ _ _ _ _ h => h.elim, fun _ _ _ _ _ _ h => h.elim, fun _ _ _ _ _ _ _ _ _ _ h => h.elim, fun Z' e σ' b y H' R' vl sp nb oa h => ?_⟩⟩
    obtain ⟨b2, cells, seed, rfl, g1, g2, g3⟩ := h
    obtain ⟨rfl, vs, e1, rl⟩ := oa
    obtain ⟨c2, rfl, ec⟩ := repL_hand rl
    obtain ⟨nc2, ec2⟩ := vis_some ec
    refine kq _ H' R'.tabs ⟨List.mem_cons_self, c2, cells, 0, 0, seed, 0, e1, fun z => nc2 ?_, ec2, g1, by omega, g2, by omega, g3⟩
    rw [List.mem_singleton.mp z]
    exact sp.ino
/-- law's promise -/
def lawSp (G : Pg) : Sp := fun vs H Q _ => ∃ (a : Addr) (ns : List Int), vs = [.ref a] ∧ SqL G.K H a (ns.map V.int) ∧ ns.length ≤ 63 ∧ LamX.Tabs G.T H ∧ ∀ H', Q (.bl true) H'
theorem law_fn {st0 : Stmt} {rest : List Stmt} (F : Fun G.K x qual st f fd) (Sc : FnScope N ps (defScope st)) (hn : 1 = ps.length) (hN : 2 ≤ N.length) (hst : defBody st = st0 :: rest)
    (h0 : ∀ (cdv : Value) (A : Around) (outer : List PySem.Env) (s : Shared) (H : Hp) (E : XK), Room k (A.deeper (envOfC qual (defScope st) s.heap.objs.size f cdv)) →
      PS (cxOf (L2.CX P w) P w G.K mg base N qual (defScope st) f cdv A outer s H E) st0 (tAsg (tCallS (handSp G) (fun _ _ _ _ => False) (tCons (tVar 0) tNil)) (gName 1)))
    (hbody : ∀ (cdv : Value) (A : Around) (outer : List PySem.Env) (s : Shared) (H : Hp) (E : XK) (S : Ent), S.G = G → Room k (A.deeper (envOfC qual (defScope st) s.heap.objs.size f cdv)) →
      DSs S (cxOf (L2.CX P w) P w G.K mg base N qual (defScope st) f cdv A outer s H E) rest B)
    (hB : B (.no :: .val .hand :: List.replicate (N.length - 2) .no) { nx := fun _ => False, rt := fun d _ => d = .bl true, bk := fun _ => False, ct := fun _ => False, ex := fun _ _ => False }) :
    FnOk P w G.K mg base (L2.CX P w) (k + 1) f fd ps (lawSp G) := by
  refine F.okX Sc (fun vs H Q E h => ?_) fun cdv A outer s H vs Q E hr h => ?_
  · obtain ⟨_, _, rfl, _⟩ := h
    exact hn
  · obtain ⟨a, ns, rfl, sq, hl, tt, kq⟩ := h
    let T : TS := fun D' σ H' => ∃ S : Ent, ∃ Z env, S.G = G ∧ Rel S Z env σ H' ∧ B env { nx := fun _ => False, rt := fun d _ => d = .bl true, bk := fun _ => False, ct := fun _ => False, ex := fun _ _ => False } ∧ ∀ H', D'.rt (.bl true) H'
    have pr : PSs (cxOf (L2.CX P w) P w G.K mg base N qual (defScope st) f cdv A outer s H E) rest T := ⟨fun pins s1 σ H1 D' I hh => by
      obtain ⟨S, Z, env, eG, R, hb, kk⟩ := hh
      obtain ⟨t, pp, q⟩ := (hbody cdv A outer s H E S eG hr).run (fun cls d _ H => E cls d H) (takes_of rfl rfl rfl rfl) PassesOwn.leaving
      exact pp.run pins s1 σ H1 D' I (q Z env σ H1 _ D' R hb ⟨fun _ _ _ _ _ _ h => h.elim, fun Z' e σ' v d H' R' vl rv h => by subst h; cases rv; exact kk H', fun _ _ _ _ _ _ h => h.elim, fun _ _ _ _ _ _ h => h.elim, fun _ _ _ _ _ _ _ _ _ _ h => h.elim, fun _ _ _ _ _ _ _ _ _ _ _ h => h.elim⟩)⟩
    rw [hst]
    refine ⟨_, pss_cons (h0 cdv A outer s H E hr) pr, ?_⟩
    refine ⟨.ref a, ?_, a, ns, rfl, sq, hl, tt, fun p H' tt' ho => ?_⟩
    · unfold L2.start
      rfl
    · refine ⟨⟨G, ⟨[p], some p, []⟩, H'⟩, ⟨[p], some p, []⟩, _, rfl, ?_, hB, kq⟩
      have hpn : H' p ≠ none := by
        obtain ⟨_, _, _, _, _, _, _, e, _⟩ := ho
        rw [e]; simp
      refine ⟨fun b hb => by rw [List.mem_singleton.mp hb]; exact hpn, fun _ h => h, fun b hb => by cases hb; exact ho, rfl, fun b o e _ => .of e, fun b hb => by rw [List.mem_singleton.mp hb]; exact hpn, fun b hb => .inl hb, ?_, fun i y e => ?_, fun i j y z b ey ez oy oz _ _ => ?_, fun b hb => absurd hb (by simp), tt', fun b hb => .inl hb⟩
      · unfold L2.start
        simp
        omega
      · match i with
        | 0 => cases e; trivial
        | 1 =>
          cases e
          refine ⟨.ref p, ?_, .hand rfl⟩
          rw [List.getElem?_set_self]
          unfold L2.start
          simp
          omega
        | i + 2 =>
          rw [List.getElem?_cons_succ, List.getElem?_cons_succ, List.getElem?_replicate] at e
          split at e
          · cases e; trivial
          · cases e
      · match i with
        | 0 => cases ey; cases oy
        | 1 => cases ey; cases oy
        | i + 2 =>
          rw [List.getElem?_cons_succ, List.getElem?_cons_succ, List.getElem?_replicate] at ey
          split at ey
          · cases ey; cases oy
          · cases ey
end
end DV

set_option Elab.async false
set_option linter.all false
set_option maxRecDepth 100000
/-! DV8: further rules. -/
namespace DV
open PySem PySem.Spec PyProof.Rows L2
section
variable {S : Ent} {X : Cx} {a b c e : Expr} {Ta Tb Tc Te : Tm} {pos : Pos} {A : Tt}
def wNeg (T : Tm) : Tm := fun env Q E => T env (fun d env1 => match d with | .int i => Q (.int (-i)) env1 | _ => False) E
theorem dx_neg (ha : DB S X a Ta) : DE S X (.UnaryOp .USub a pos) (wNeg Ta) := ⟨fun W tk => by
  obtain ⟨t, p, q⟩ := ha.run W tk
  refine ⟨_, pe_un un_neg p, fun Z env σ H Q E Q' R hT k x => ?_⟩
  refine q Z env σ H _ E _ R hT (fun Z1 env1 v d H1 R1 t1 r1 h1 => ?_) x
  split at h1
  · exact ⟨_, r1.int, k Z1 env1 _ _ H1 R1 t1 (.int _) h1⟩
  · exact h1.elim⟩
/-- y = [..] of one line, a value -/
theorem ds_valLc (i : Nat) {y : Str} {py : Pos} {elt tg iter : Expr} {ifs : List Expr} {scope : Scope} {own : List (Str × Nat)} {spos : Pos} {Tt' : Ti} {g : Tg} {ix ws : List Nat} (hc : X.calm = true) (hN : X.N.Nodup)
    (hi : DI S Mv X tg iter Tt') (ok : BlkOk X.N X.env.scope scope own)
    (hg : ∀ (s : Shared) (H : Hp) (C : Addr) (cl : List (Str × Addr)) (fp : List Addr), DG S (X.blk s H scope (compEnvC scope cl C X.env) fp) tg ix g)
    (ht : ∀ (s : Shared) (H : Hp) (C : Addr) (cl : List (Str × Addr)) (fp : List Addr), DIf S (X.blk s H scope (compEnvC scope cl C X.env) fp) ifs A)
    (he : ∀ (s : Shared) (H : Hp) (C : Addr) (cl : List (Str × Addr)) (fp : List Addr), DE S (X.blk s H scope (compEnvC scope cl C X.env) fp) elt Te)
    (hsw : swapsWith (.ListComp elt [⟨tg, iter, ifs, 0⟩] scope pos) (some (.Name y py)) spos.line X.env = pure true) (hy : X.N[i]? = some y := by rfl) (hyl : X.env.scope.names.lookup y = some .local := by rfl)
    (hw : own.map (·.2) = ws := by rfl) (hix : ∀ i ∈ ix, i ∈ ws := by decide) (hs : ∀ x, foldedSetIterable iter X.env x = pure x := by intro _; rfl) :
    DS S X (.Assign [.Name y py] (.ListComp elt [⟨tg, iter, ifs, 0⟩] scope pos) spos) (wAsg (wF (wLc Tt' g A Te ws)) (gN i)) := ⟨fun W tk pa => by
  subst hw
  obtain ⟨wi, pi, qi⟩ := hi.run W tk
  let gt : TG := fun v σ H K' => ∀ s0 H0 C cl fp, Classical.choose (hg s0 H0 C cl fp).run v σ H K'
  have pg : ∀ s0 H0 C cl fp, PG (X.blk s0 H0 scope (compEnvC scope cl C X.env) fp) tg gt := fun s0 H0 C cl fp =>
    ⟨fun pins s σ H v u Q I r h => (Classical.choose_spec (hg s0 H0 C cl fp).run).1.run pins s σ H v u Q I r (h s0 H0 C cl fp)⟩
  refine ⟨_, ps_setLc hc hN hy hyl hsw pi ok pg (fun s H C cl fp => (ht s H C cl fp).sem W0 takes0) (fun s H C cl fp => (he s H C cl fp).sem takes0) hs, fun Z env σ H P D' R hT f => ?_⟩
  refine qi Z env σ H _ _ _ R hT (fun Z1 env1 J items H1 R1 t1 y h1 D0 hD => ?_) ((f.ex σ).ok R)
  obtain ⟨hz, hgo⟩ := h1
  refine lc_turns hix (fun Z env σ H v d K K' R r hk kk s0 H0 C cl fp => (Classical.choose_spec (hg s0 H0 C cl fp).run).2 Z env σ H v d K K' R r hk kk) R1 y hD hz hgo fun Z' e2 vs acc H' R' t' hD' rl hq => ?_
  obtain ⟨R2, sp⟩ := R'.release t'.bb
  have t2 : Tr Z1 H1 ⟨Z'.O, Z'.h, Z1.B⟩ H' := ⟨t'.keep, t'.osub, t'.hh, t'.hz, rfl⟩
  have R3 := R1.back (R1.vle t2) R2
  have sb := sp.back (env := env1)
  have oa : OwnAt S ⟨Z'.O, Z'.h, Z1.B⟩ H' D0 (.own D0 acc) := ⟨rfl, vs, hD', rl⟩
  obtain ⟨R4, v4⟩ := R3.unhide sb.no sb.ne sb.nh (R3.entOut sb.ne) fun hb => (R1.oin D0 (R1.res D0 hb).ino) hD
  exact f.nx _ _ _ H' (R4.put (oa.show v4 (by simp))) (((R.vle t1).trans (R1.vle t2)).trans v4) (hq D0)⟩
/-! ### xs[::-1] -/
def wRev (T : Tm) : Tm := fun env Q E => T env (fun d env1 => match d with | .lst xs => Q (.lst xs.reverse) env1 | _ => False) E
theorem RepL.app {G : Pg} {H : Hp} {hh : Option Addr} : ∀ {vs ws : List V} {ds es : List D}, RepL G H hh vs ds → RepL G H hh ws es → RepL G H hh (vs ++ ws) (ds ++ es)
  | _, _, _, _, .nil, h => h
  | _, _, _, _, .cons h1 h2, h => .cons h1 (RepL.app h2 h)
theorem RepL.rev {G : Pg} {H : Hp} {hh : Option Addr} : ∀ {vs : List V} {ds : List D}, RepL G H hh vs ds → RepL G H hh vs.reverse ds.reverse
  | _, _, .nil => .nil
  | _, _, .cons h1 h2 => by
    rw [List.reverse_cons, List.reverse_cons]
    exact RepL.app h2.rev (.cons h1 .nil)
theorem dx_rev {k : Nat} {p1 p2 p3 : Pos} (hK : X.K = S.G.K) (ha : DB S X a Ta) : DE S X (.Subscript a (.Slice none none (some (.UnaryOp .USub (.Constant (.int 1) k p1) p2)) p3) pos) (wRev Ta) := ⟨fun W tk => by
  obtain ⟨ta, pa, ra⟩ := ha.run W tk
  refine ⟨_, pe_revL pa, fun Z env σ H Q E Q' R hT k x => ?_⟩
  refine ra Z env σ H _ E _ R hT (fun Z1 env1 v d H1 R1 t1 r1 h1 => ?_) x
  split at h1
  · obtain ⟨p, vs, rfl, ep, rp⟩ := r1.lst
    exact ⟨p, vs, rfl, SqL.of ep, fun q hq => k Z1 env1 _ _ _ (R1.grow (same_upd hq)) (Tr.trans R1 t1 (.alloc (same_upd hq))) (new_lst R1.oin hq rp.rev) h1⟩
  · exact h1.elim⟩
end
end DV

set_option Elab.async false
set_option linter.all false
set_option maxRecDepth 100000
/-! DV9: words for the plain proofs. -/
namespace DV
open PySem PySem.Spec PyProof.Rows L2
theorem draw_iff {x y : D} {Q : D → Prop} {E : Er → Prop} : wDraw [x, y] Q E ↔ x = .hand ∧ ∃ m, y = .int m ∧ 0 < m ∧ m < 1180591620717411303424 ∧ ∀ d : Int, 0 ≤ d → d < m → Q (.int d) := by
  unfold wDraw
  constructor
  · rintro ⟨m, e, h⟩
    cases e
    exact ⟨rfl, m, rfl, h⟩
  · rintro ⟨rfl, m, rfl, h⟩
    exact ⟨m, rfl, h⟩
theorem own_ex {b : Addr} {ys : List D} {P : Addr → List D → Prop} : (∃ a xs, some (Sl.own b ys) = some (.own a xs) ∧ P a xs) ↔ P b ys := by
  constructor
  · rintro ⟨a, xs, e, h⟩; cases e; exact h
  · intro h; exact ⟨b, ys, rfl, h⟩
theorem val_ex {d : Int} {P : Int → Prop} : (∃ n, some (Sl.val (.int d)) = some (.val (.int n)) ∧ P n) ↔ P d := by
  constructor
  · rintro ⟨n, e, h⟩; cases e; exact h
  · intro h; exact ⟨d, rfl, h⟩
section
variable {α : Type} {a b c d e : α} {l : List α}
theorem atI_0 : atI (a :: l) 0 = some a := by
  unfold atI ixN
  rw [if_pos (by decide), if_pos (by simp only [List.length_cons]; omega)]
  rfl
theorem atI_1 : atI (a :: b :: l) 1 = some b := by
  unfold atI ixN
  rw [if_pos (by decide), if_pos (by simp only [List.length_cons]; omega)]
  rfl
theorem atI_2 : atI (a :: b :: c :: l) 2 = some c := by
  unfold atI ixN
  rw [if_pos (by decide), if_pos (by simp only [List.length_cons]; omega)]
  rfl
theorem atI_3 : atI (a :: b :: c :: d :: l) 3 = some d := by
  unfold atI ixN
  rw [if_pos (by decide), if_pos (by simp only [List.length_cons]; omega)]
  rfl
theorem atI_4 : atI (a :: b :: c :: d :: e :: l) 4 = some e := by
  unfold atI ixN
  rw [if_pos (by decide), if_pos (by simp only [List.length_cons]; omega)]
  rfl
theorem atI_nat {l : List α} {i : Int} {k : Nat} (h : i = k) : atI l i = l[k]? := by
  subst h
  unfold atI ixN
  rw [if_pos (by omega)]
  by_cases q : (k : Int) < l.length
  · rw [if_pos q]; rfl
  · rw [if_neg q, List.getElem?_eq_none (by omega)]; rfl
end
theorem ixN_5_0 : ixN 5 0 = some 0 := rfl
theorem ixN_5_1 : ixN 5 1 = some 1 := rfl
theorem ixN_5_2 : ixN 5 2 = some 2 := rfl
theorem ixN_5_3 : ixN 5 3 = some 3 := rfl
theorem ixN_5_4 : ixN 5 4 = some 4 := rfl
theorem okD_int {i : Int} {n : Nat} : okD (.int i) n = true := by rw [okD]
theorem okD_bl {i : Bool} {n : Nat} : okD (.bl i) n = true := by rw [okD]
theorem okD_non {n : Nat} : okD .non n = true := by rw [okD]
theorem okD_lst {xs : List D} {n : Nat} : okD (.lst xs) (n + 1) = okL xs n := by rw [okD]
theorem okD_tup {xs : List D} {n : Nat} : okD (.tup xs) (n + 1) = okL xs n := by rw [okD]
theorem okL_nil {n : Nat} : okL [] n = true := by rw [okL]
theorem okL_cons {x : D} {xs : List D} {n : Nat} : okL (x :: xs) n = (okD x n && okL xs n) := by rw [okL]
theorem okL_all {xs : List D} {n : Nat} (h : ∀ x ∈ xs, okD x n = true) : okL xs n = true := by
  induction xs with
  | nil => rw [okL]
  | cons x xs ih => rw [okL, h x List.mem_cons_self, ih fun y hy => h y (List.mem_cons_of_mem _ hy)]; rfl
theorem okL_int {xs : List Int} {n : Nat} : okL (xs.map D.int) n = true := okL_all fun x h => by
  obtain ⟨i, _, rfl⟩ := List.mem_map.mp h
  exact okD_int
/-! ### equal data -/
theorem eqD_int {i j : Int} : eqD (.int i) (.int j) = decide (i = j) := by
  unfold eqD
  rw [pd, pd, PyData.eqv]
  exact Bool.eq_iff_iff.mpr (by rw [beq_iff_eq, decide_eq_true_iff])
theorem eqD_bl {i j : Bool} : eqD (.bl i) (.bl j) = decide (i = j) := by
  unfold eqD
  rw [pd, pd, PyData.eqv]
  exact Bool.eq_iff_iff.mpr (by rw [beq_iff_eq, decide_eq_true_iff])
theorem eqD_str {i j : Str} : eqD (.str i) (.str j) = decide (i = j) := by
  unfold eqD
  rw [pd, pd, PyData.eqv]
  exact Bool.eq_iff_iff.mpr (by rw [beq_iff_eq, decide_eq_true_iff])
theorem eqL_nil : eqL [] [] = true := by
  unfold eqL
  rw [pdL, PyData.eqvAll]
theorem eqL_nc {y : D} {ys : List D} : eqL [] (y :: ys) = false := by
  unfold eqL
  rw [pdL, pdL, PyData.eqvAll]
theorem eqL_cn {y : D} {ys : List D} : eqL (y :: ys) [] = false := by
  unfold eqL
  rw [pdL, pdL, PyData.eqvAll]
theorem eqL_cons {x y : D} {xs ys : List D} : eqL (x :: xs) (y :: ys) = (eqD x y && eqL xs ys) := by
  unfold eqL eqD
  rw [pdL, pdL, PyData.eqvAll]
theorem eqD_tup {xs ys : List D} : eqD (.tup xs) (.tup ys) = eqL xs ys := by
  unfold eqD eqL
  rw [pd, pd, PyData.eqv]
theorem eqD_lst {xs ys : List D} : eqD (.lst xs) (.lst ys) = eqL xs ys := by
  unfold eqD eqL
  rw [pd, pd, PyData.eqv]
theorem eqL_int : ∀ {xs ys : List Int}, eqL (xs.map D.int) (ys.map D.int) = decide (xs = ys)
  | [], [] => by simp [eqL_nil]
  | [], _ :: _ => by simp [eqL_nc]
  | _ :: _, [] => by simp [eqL_cn]
  | x :: xs, y :: ys => by
    rw [List.map_cons, List.map_cons, eqL_cons, eqD_int, eqL_int]
    simp only [List.cons.injEq, Bool.decide_and]
theorem eqL_str : ∀ {xs ys : List Str}, eqL (xs.map D.str) (ys.map D.str) = decide (xs = ys)
  | [], [] => by simp [eqL_nil]
  | [], _ :: _ => by simp [eqL_nc]
  | _ :: _, [] => by simp [eqL_cn]
  | x :: xs, y :: ys => by
    rw [List.map_cons, List.map_cons, eqL_cons, eqD_str, eqL_str]
    simp only [List.cons.injEq, Bool.decide_and]
mutual
theorem eqD_refl : ∀ {x : D} {n : Nat}, okD x n = true → eqD x x = true
  | .non, _, _ => by unfold eqD; rw [pd, PyData.eqv]
  | .bl _, _, _ => by rw [eqD_bl]; simp
  | .int _, _, _ => by rw [eqD_int]; simp
  | .str _, _, _ => by rw [eqD_str]; simp
  | .tup xs, 0, h => by rw [okD] at h; cases h
  | .tup xs, n + 1, h => by
    rw [okD] at h
    rw [eqD_tup]; exact eqL_refl h
  | .lst xs, 0, h => by rw [okD] at h; cases h
  | .lst xs, n + 1, h => by
    rw [okD] at h
    rw [eqD_lst]; exact eqL_refl h
  | .dct _, _, h => by rw [okD] at h; cases h
  | .obj _ _, _, h => by rw [okD] at h; cases h
  | .frz _, _, h => by rw [okD] at h; cases h
  | .fn _, _, h => by rw [okD] at h; cases h
  | .hand, _, h => by rw [okD] at h; cases h
theorem eqL_refl : ∀ {x : List D} {n : Nat}, okL x n = true → eqL x x = true
  | [], _, _ => eqL_nil
  | x :: xs, n, h => by
    rw [okL, Bool.and_eq_true] at h
    rw [eqL_cons, eqD_refl h.1, eqL_refl h.2]; rfl
end
/-! ### turns -/
theorem for_ind {g : Tg} {B : Ts} {P : Post} (I : List D → Env → Prop) (fin : ∀ env, I [] env → P.nx env)
    (step : ∀ x r env, I (x :: r) env → ∀ nx : Env → Prop, (∀ e, I r e → nx e) → g x env fun e1 => B e1 { P with nx := nx, ct := nx, bk := P.nx }) : ∀ {xs : List D} {env : Env}, I xs env → forGo g B P xs env
  | [], env, h => fin env h
  | x :: r, env, h => step x r env h _ fun _ h2 => for_ind I fin step h2
theorem rangeD_get {lo hi : Int} {k : Nat} (h : (k : Int) < hi - lo) : (rangeD lo hi).drop k = .int (lo + k) :: (rangeD lo hi).drop (k + 1) := by
  have hl : (rangeD lo hi).length = (hi - lo).toNat := by unfold rangeD; simp
  rw [List.drop_eq_getElem_cons (by rw [hl]; omega)]
  congr 1
  unfold rangeD
  simp
theorem for_range {g : Tg} {B : Ts} {P : Post} {lo hi : Int} (I : Nat → Env → Prop) {env : Env} (h0 : I 0 env) (fin : ∀ env, I (hi - lo).toNat env → P.nx env)
    (step : ∀ (k : Nat) env, (k : Int) < hi - lo → I k env → ∀ nx : Env → Prop, (∀ e, I (k + 1) e → nx e) → g (.int (lo + k)) env fun e1 => B e1 { P with nx := nx, ct := nx, bk := P.nx }) : forGo g B P (rangeD lo hi) env := by
  have hl : (rangeD lo hi).length = (hi - lo).toNat := by unfold rangeD; simp
  refine for_ind (fun r e => ∃ k, k ≤ (hi - lo).toNat ∧ r = (rangeD lo hi).drop k ∧ I k e) (fun e h => ?_) (fun x r e h nx hn => ?_) ⟨0, by omega, rfl, h0⟩
  · obtain ⟨k, hk, e1, h⟩ := h
    have e2 := congrArg List.length e1
    rw [List.length_drop, hl] at e2
    have : k = (hi - lo).toNat := by simp at e2; omega
    subst this
    exact fin e h
  · obtain ⟨k, hk, e1, h⟩ := h
    have e2 := congrArg List.length e1
    rw [List.length_drop, hl] at e2
    have hk2 : (k : Int) < hi - lo := by simp at e2; omega
    rw [rangeD_get hk2] at e1
    cases e1
    exact step k e hk2 h nx fun e2 h2 => hn e2 ⟨k + 1, by omega, rfl, h2⟩
theorem wh_ind {A : Tt} {B : Ts} {P : Post} (I : Nat → Env → Prop)
    (step : ∀ m env, I m env → ∀ nx : Env → Prop, (∀ m' e, m' < m → I m' e → nx e) → A env (fun k e1 => if k = true then B e1 { P with nx := nx, ct := nx, bk := P.nx } else P.nx e1) P.ex) {m : Nat} {env : Env} (h : I m env) : ∃ n, whGo A B P n env := by
  have key : ∀ n m env, m < n → I m env → whGo A B P n env := by
    intro n
    induction n with
    | zero => intro m env h; omega
    | succ n ih => exact fun m env hm hi => step m env hi _ fun m' e h1 h2 => ih m' e (by omega) h2
  exact ⟨m + 1, key _ _ _ (Nat.lt_succ_self m) h⟩
theorem lc_flat {g : Tg} {A : Tt} {Te : Tm} {ws : List Nat} {K : List D → Env → Prop} (FF : D → List D) {env : Env} : ∀ {xs acc : List D}, (∀ x ∈ xs, ∀ K' : List D → Env → Prop, K' (FF x) env → g x env fun e1 => A e1 (fun b e2 => if b = true then Te e2 (fun d e3 => K' [d] (wipeE e3 ws)) (fun _ _ => False) else K' [] (wipeE e2 ws)) fun _ _ => False) →
    K (acc ++ xs.flatMap FF) env → lcGo g A Te ws xs acc env K
  | [], acc, _, h => by simpa [lcGo] using h
  | x :: xs, acc, hs, h => by
    have := hs x List.mem_cons_self (fun ds e => lcGo g A Te ws xs (acc ++ ds) e K) (lc_flat FF (fun y hy => hs y (List.mem_cons_of_mem _ hy)) (by simpa [List.append_assoc] using h))
    simpa only [lcGo, List.append_nil] using this
theorem lc_map {g : Tg} {A : Tt} {Te : Tm} {ws : List Nat} {K : List D → Env → Prop} (F : D → D) {env : Env} {xs acc : List D} (hs : ∀ x ∈ xs, ∀ K' : List D → Env → Prop, K' [F x] env → g x env fun e1 => A e1 (fun b e2 => if b = true then Te e2 (fun d e3 => K' [d] (wipeE e3 ws)) (fun _ _ => False) else K' [] (wipeE e2 ws)) fun _ _ => False)
    (h : K (acc ++ xs.map F) env) : lcGo g A Te ws xs acc env K := lc_flat (fun x => [F x]) hs (by rw [List.map_eq_flatMap] at h; exact h)
/-- each turn gives one datum that answers to R -/
theorem lc_rel {g : Tg} {A : Tt} {Te : Tm} {ws : List Nat} {K : List D → Env → Prop} (R : D → D → Prop) {env : Env} : ∀ {xs acc : List D}, (∀ x ∈ xs, ∀ K' : List D → Env → Prop, (∀ d, R x d → K' [d] env) → g x env fun e1 => A e1 (fun b e2 => if b = true then Te e2 (fun d e3 => K' [d] (wipeE e3 ws)) (fun _ _ => False) else K' [] (wipeE e2 ws)) fun _ _ => False) →
    (∀ ds : List D, ds.length = xs.length → (∀ (i : Nat) x d, xs[i]? = some x → ds[i]? = some d → R x d) → K (acc ++ ds) env) → lcGo g A Te ws xs acc env K
  | [], acc, _, h => by simpa [lcGo] using h [] rfl (by intro i x d e; simp at e)
  | x :: xs, acc, hs, h => by
    have := hs x List.mem_cons_self (fun ds e => lcGo g A Te ws xs (acc ++ ds) e K) (fun d hd => lc_rel R (fun y hy => hs y (List.mem_cons_of_mem _ hy)) fun ds hl hr => by
      rw [List.append_assoc]
      refine h (d :: ds) (by simp [hl]) fun i a b e1 e2 => ?_
      match i with
      | 0 => cases e1; cases e2; exact hd
      | i + 1 => exact hr i a b (by simpa using e1) (by simpa using e2))
    simpa only [lcGo, List.append_nil] using this
/-- draws: a list of numbers from nought to below b -/
theorem ints_of {ds : List D} {p : Int → Prop} (h : ∀ d ∈ ds, ∃ i, d = .int i ∧ p i) : ∃ ns : List Int, ds = ns.map D.int ∧ ∀ n ∈ ns, p n := by
  induction ds with
  | nil => exact ⟨[], rfl, by simp⟩
  | cons d ds ih =>
    obtain ⟨ns, e, hn⟩ := ih fun x hx => h x (List.mem_cons_of_mem _ hx)
    obtain ⟨i, rfl, hi⟩ := h d List.mem_cons_self
    refine ⟨i :: ns, by rw [List.map_cons, e], fun n hn' => ?_⟩
    rcases List.mem_cons.mp hn' with rfl | hm
    · exact hi
    · exact hn n hm
theorem lc_ints {g : Tg} {A : Tt} {Te : Tm} {ws : List Nat} {K : List D → Env → Prop} (p : Int → Prop) {env : Env} {xs : List D} (hs : ∀ x ∈ xs, ∀ K' : List D → Env → Prop, (∀ d, p d → K' [.int d] env) → g x env fun e1 => A e1 (fun b e2 => if b = true then Te e2 (fun d e3 => K' [d] (wipeE e3 ws)) (fun _ _ => False) else K' [] (wipeE e2 ws)) fun _ _ => False)
    (h : ∀ ns : List Int, ns.length = xs.length → (∀ n ∈ ns, p n) → K (ns.map D.int) env) : lcGo g A Te ws xs [] env K := by
  refine lc_rel (fun _ d => ∃ i, d = .int i ∧ p i) (fun x hx K' hk => hs x hx K' fun d hd => hk _ ⟨d, rfl, hd⟩) fun ds hl hr => ?_
  obtain ⟨ns, rfl, hn⟩ := ints_of (p := p) (ds := ds) fun d hd => by
    obtain ⟨i, hi, e⟩ := List.getElem_of_mem hd
    exact hr i _ d (List.getElem?_eq_getElem (by omega)) (by rw [List.getElem?_eq_getElem hi, e])
  exact h ns (by simpa using hl) hn
theorem mem_range {lo hi : Int} {x : D} (h : x ∈ rangeD lo hi) : ∃ i, x = .int i ∧ lo ≤ i ∧ i < hi := by
  unfold rangeD at h
  obtain ⟨k, hk, rfl⟩ := List.mem_map.mp h
  rw [List.mem_range] at hk
  exact ⟨_, rfl, by omega, by omega⟩
theorem natAbs_10 : Int.natAbs 10 = 10 := rfl
theorem natAbs_2 : Int.natAbs 2 = 2 := rfl
theorem emod_mul_l {a b q : Int} : a % q * b % q = a * b % q := by
  rw [Int.mul_emod, Int.emod_emod_of_dvd _ (Int.dvd_refl q), ← Int.mul_emod]
theorem emod_mul_r {a b q : Int} : a * (b % q) % q = a * b % q := by
  rw [Int.mul_emod, Int.emod_emod_of_dvd _ (Int.dvd_refl q), ← Int.mul_emod]
def rangeI (lo hi : Int) : List Int := (List.range (hi - lo).toNat).map fun (k : Nat) => lo + k
theorem rangeD_map {lo hi : Int} : rangeD lo hi = (rangeI lo hi).map D.int := by
  unfold rangeD rangeI
  rw [List.map_map]; rfl
theorem mem_rangeI {lo hi x : Int} : x ∈ rangeI lo hi ↔ lo ≤ x ∧ x < hi := by
  unfold rangeI
  rw [List.mem_map]
  constructor
  · rintro ⟨k, hk, rfl⟩
    rw [List.mem_range] at hk
    omega
  · intro h
    exact ⟨(x - lo).toNat, by rw [List.mem_range]; omega, by omega⟩
theorem rangeI_len {lo hi : Int} : (rangeI lo hi).length = (hi - lo).toNat := by unfold rangeI; simp
/-- a loop that looks for the first hit -/
theorem for_search {α : Type} {emb : α → D} {g : Tg} {B : Ts} (f : α → Option D) (J : Env → Prop) : ∀ {xs : List α} {P : Post} {env : Env}, (∀ d, xs.findSome? f = some d → ∀ e, P.rt d e) → (xs.findSome? f = none → ∀ e, J e → P.nx e) →
    (∀ x ∈ xs, ∀ env, J env → ∀ P' : Post, (∀ d, f x = some d → ∀ e, P'.rt d e) → (f x = none → ∀ e, J e → P'.nx e) → g (emb x) env fun e1 => B e1 P') → J env → forGo g B P (xs.map emb) env
  | [], P, env, _, h2, _, j => h2 rfl env j
  | x :: xs, P, env, h1, h2, hs, j => by
    rw [List.map_cons, forGo]
    refine hs x List.mem_cons_self env j _ (fun d hd e => h1 d (by rw [List.findSome?_cons, hd]) e) fun hn e je => ?_
    exact for_search f J (fun d hd => h1 d (by rw [List.findSome?_cons, hn]; exact hd)) (fun hd => h2 (by rw [List.findSome?_cons, hn]; exact hd)) (fun y hy => hs y (List.mem_cons_of_mem _ hy)) je
theorem findSome_congr {α β : Type} {f f' : α → Option β} : ∀ {xs : List α}, (∀ x ∈ xs, f x = f' x) → xs.findSome? f = xs.findSome? f'
  | [], _ => rfl
  | x :: xs, h => by
    rw [List.findSome?_cons, List.findSome?_cons, h x List.mem_cons_self, findSome_congr fun y hy => h y (List.mem_cons_of_mem _ hy)]
theorem big_0 : (0 ≤ big) = True := eq_true (by decide)
theorem big_1 : (1 ≤ big) = True := eq_true (by decide)
theorem big_2 : (2 ≤ big) = True := eq_true (by decide)
theorem big_3 : (3 ≤ big) = True := eq_true (by decide)
theorem big_4 : (4 ≤ big) = True := eq_true (by decide)
theorem big_5 : (5 ≤ big) = True := eq_true (by decide)
theorem big_6 : (6 ≤ big) = True := eq_true (by decide)
theorem big_7 : (7 ≤ big) = True := eq_true (by decide)
theorem big_8 : (8 ≤ big) = True := eq_true (by decide)
theorem big_9 : (9 ≤ big) = True := eq_true (by decide)
theorem big_10 : (10 ≤ big) = True := eq_true (by decide)
theorem big_11 : (11 ≤ big) = True := eq_true (by decide)
theorem big_12 : (12 ≤ big) = True := eq_true (by decide)
/-! ### cuts -/
theorem cut_map {xs : List Int} {lo hi : Option Int} : DV.cutD (xs.map D.int) lo hi = ((xs.drop (HT.sIx xs.length 0 lo)).take (HT.sIx xs.length xs.length hi - HT.sIx xs.length 0 lo)).map D.int := by
  unfold DV.cutD
  rw [List.length_map, List.map_take, List.map_drop]
theorem cut_to {xs : List D} {i : Int} {k : Nat} (h : i = k) : DV.cutD xs none (some i) = xs.take k := by
  subst h
  unfold DV.cutD
  rw [HT.sIx_none, HT.sIx_nat, List.drop_zero, Nat.sub_zero]
  by_cases h : k ≤ xs.length
  · rw [Nat.min_eq_left h]
  · rw [Nat.min_eq_right (by omega), List.take_length, List.take_of_length_le (by omega)]
theorem cut_from {xs : List D} {i : Int} {k : Nat} (h : i = k) : DV.cutD xs (some i) none = xs.drop k := by
  subst h
  unfold DV.cutD
  rw [HT.sIx_none, HT.sIx_nat]
  by_cases h : k ≤ xs.length
  · rw [Nat.min_eq_left h, List.take_of_length_le (by rw [List.length_drop]; omega)]
  · rw [Nat.min_eq_right (by omega), Nat.sub_self, List.take_zero, List.drop_of_length_le (by omega)]
theorem cut_mid {xs : List D} {i j : Int} {k m : Nat} (h : i = k) (h2 : j = m) : DV.cutD xs (some i) (some j) = (xs.drop k).take (m - k) := by
  subst h h2
  unfold DV.cutD
  rw [HT.sIx_nat, HT.sIx_nat]
  by_cases h : k ≤ xs.length
  · rw [Nat.min_eq_left h]
    by_cases h' : m ≤ xs.length
    · rw [Nat.min_eq_left h']
    · rw [Nat.min_eq_right (by omega), List.take_of_length_le (i := m - k) (by rw [List.length_drop]; omega), List.take_of_length_le (by rw [List.length_drop]; omega)]
  · rw [Nat.min_eq_right (by omega : xs.length ≤ k), List.drop_of_length_le (by omega), List.drop_of_length_le (by omega), List.take_nil, List.take_nil]
theorem okD_str {x : Str} {n : Nat} : okD (.str x) n = PyData.strOk x := by rw [okD, PyData.canLay0]
/-! ### slots, not by computing -/
section
variable {α : Type} {a b : α} {l : List α} {n : Nat}
theorem get_z : (a :: l)[0]? = some a := Eq.trans (Eq.refl _) List.getElem?_cons_zero
theorem get_s : (a :: l)[n + 1]? = l[n]? := Eq.trans (Eq.refl _) List.getElem?_cons_succ
theorem set_z : (a :: l).set 0 b = b :: l := Eq.trans (Eq.refl _) (Eq.refl _)
theorem set_s : (a :: l).set (n + 1) b = a :: l.set n b := Eq.trans (Eq.refl _) (Eq.refl _)
end
/-! ### targets of several names -/
section
variable {env : Env} {K : Env → Prop}
theorem gT1 {x0 : D} {i0 : Nat} : DV.gTup 1 (DV.gCons (gN i0) DV.gNil) (.tup [x0]) env K ↔ K (env.set i0 (.val x0)) := by
  unfold DV.gTup
  exact ⟨fun h => h.2.2, fun h => ⟨rfl, rfl, h⟩⟩
theorem gT2 {x0 x1 : D} {i0 i1 : Nat} : DV.gTup 2 (DV.gCons (gN i0) (DV.gCons (gN i1) DV.gNil)) (.tup [x0, x1]) env K ↔ K ((env.set i0 (.val x0)).set i1 (.val x1)) := by
  unfold DV.gTup
  exact ⟨fun h => h.2.2, fun h => ⟨rfl, rfl, h⟩⟩
theorem gT3 {x0 x1 x2 : D} {i0 i1 i2 : Nat} : DV.gTup 3 (DV.gCons (gN i0) (DV.gCons (gN i1) (DV.gCons (gN i2) DV.gNil))) (.tup [x0, x1, x2]) env K ↔ K (((env.set i0 (.val x0)).set i1 (.val x1)).set i2 (.val x2)) := by
  unfold DV.gTup
  exact ⟨fun h => h.2.2, fun h => ⟨rfl, rfl, h⟩⟩
theorem gT4 {x0 x1 x2 x3 : D} {i0 i1 i2 i3 : Nat} : DV.gTup 4 (DV.gCons (gN i0) (DV.gCons (gN i1) (DV.gCons (gN i2) (DV.gCons (gN i3) DV.gNil)))) (.tup [x0, x1, x2, x3]) env K ↔ K ((((env.set i0 (.val x0)).set i1 (.val x1)).set i2 (.val x2)).set i3 (.val x3)) := by
  unfold DV.gTup
  exact ⟨fun h => h.2.2, fun h => ⟨rfl, rfl, h⟩⟩
theorem gT5 {x0 x1 x2 x3 x4 : D} {i0 i1 i2 i3 i4 : Nat} : DV.gTup 5 (DV.gCons (gN i0) (DV.gCons (gN i1) (DV.gCons (gN i2) (DV.gCons (gN i3) (DV.gCons (gN i4) DV.gNil))))) (.tup [x0, x1, x2, x3, x4]) env K ↔ K (((((env.set i0 (.val x0)).set i1 (.val x1)).set i2 (.val x2)).set i3 (.val x3)).set i4 (.val x4)) := by
  unfold DV.gTup
  exact ⟨fun h => h.2.2, fun h => ⟨rfl, rfl, h⟩⟩
theorem gT6 {x0 x1 x2 x3 x4 x5 : D} {i0 i1 i2 i3 i4 i5 : Nat} : DV.gTup 6 (DV.gCons (gN i0) (DV.gCons (gN i1) (DV.gCons (gN i2) (DV.gCons (gN i3) (DV.gCons (gN i4) (DV.gCons (gN i5) DV.gNil)))))) (.tup [x0, x1, x2, x3, x4, x5]) env K ↔ K ((((((env.set i0 (.val x0)).set i1 (.val x1)).set i2 (.val x2)).set i3 (.val x3)).set i4 (.val x4)).set i5 (.val x5)) := by
  unfold DV.gTup
  exact ⟨fun h => h.2.2, fun h => ⟨rfl, rfl, h⟩⟩
theorem gT7 {x0 x1 x2 x3 x4 x5 x6 : D} {i0 i1 i2 i3 i4 i5 i6 : Nat} : DV.gTup 7 (DV.gCons (gN i0) (DV.gCons (gN i1) (DV.gCons (gN i2) (DV.gCons (gN i3) (DV.gCons (gN i4) (DV.gCons (gN i5) (DV.gCons (gN i6) DV.gNil))))))) (.tup [x0, x1, x2, x3, x4, x5, x6]) env K ↔ K (((((((env.set i0 (.val x0)).set i1 (.val x1)).set i2 (.val x2)).set i3 (.val x3)).set i4 (.val x4)).set i5 (.val x5)).set i6 (.val x6)) := by
  unfold DV.gTup
  exact ⟨fun h => h.2.2, fun h => ⟨rfl, rfl, h⟩⟩
end
end DV

set_option Elab.async false
set_option linter.all false
set_option maxRecDepth 100000
/-! DVM: rules of the machine's side that the layer lacked: C.f(e, ..) of a class's def; raise C() of a class whose __init__ takes self alone. -/
namespace DV
open PySem PySem.Spec PyProof.Rows L2
section
variable {X : Cx} {CX : CXT} {k : Nat} {C g fI : Addr} {mc : Value} {fd : FuncData} {ps : List Str} {sp : Sp} {E : XK} {o e : Expr} {es : List Expr} {x m : Str} {p pos apos : Pos} {ta : TE} {t : TA} {pl : Sem Bool}
/-- C.f(e, ..): the class's def, called plainly -/
def tCFn (C : Addr) (sp : Sp) (E : XK) (ta : TE) (t : TA) : TE := fun σ H Q => ta σ H fun y H1 => y = .ref C ∧ t σ H1 fun vs H2 => sp vs H2 Q E
theorem pe_cfn (he : PE X o ta) (rd : ClX.CRead X.K C mc) (c : PySem.W.findCls X.K (.ref C) mc m = some (.val (.ref g))) (F : FnOk X.prog X.w X.K X.mg X.base CX k g fd ps sp) (hr : Room k X.A) (hk : PySem.W.keepIn X.K (.ref g) = true) (hb : Binds X.K fd ps [])
    (hx : Passes CX X E) (ha : PA X (e :: es) t) (hst : starEach (e :: es) X.env = (false, eval e X.env) :: starEach es X.env := by rfl) (hpl : (backTo pos (starEach es X.env)).any (·.1) = false := by rfl)
    (ht : eval (.Call (.Attribute o m apos) (e :: es) [] pos) X.env = (do
      let ov ← eval o X.env
      standAt apos.atName
      let (f, first) ← holding [ov] (getMethod ov m pl)
      callWith pos f first (backTo pos (starEach (e :: es) X.env)) (backToKw pos (keywordEach [] X.env))) := by rfl) :
    PE X (.Call (.Attribute o m apos) (e :: es) [] pos) (tCFn C sp E ta t) := by
  refine ⟨fun pins s σ H Q I h => ?_⟩
  refine PySem.W.methodCall_KW (pl := pl) (thn (he.run pins s σ H _ I h) fun u s1 ⟨y, H1, I1, ry, ey, q⟩ => ?_) ht
  subst ey
  obtain rfl : u = Value.ref C := ry
  refine PySem.W.method_cls I1.kIn rd.ga (PySem.W.cls_value I1.kIn rd.rd c (handed_of (v := .ref g) rfl) ?_)
  have I2 := I1.tok (s1.toks + 1)
  refine PySem.W.callWith_K (h₀ := X.base) I2.ok.mod.kin hk (thn (ha.run pos pins _ σ H1 _ I2 q) fun us s3 hh => ?_) hst hpl
  obtain ⟨vs, H3, I3, r3, q3⟩ := hh
  exact ⟨I3.kIn, run_fn (ds := []) (dvs := []) F hr hb .nil hx I3 r3 (by rw [List.append_nil]; exact q3)⟩
/-- a made error without a dict is let go -/
theorem mk0_end {pins : List (Addr × Obj)} {σ : L2.St} {H1 H2 : Hp} {Q : XK} {ha hb hc : Heap} {ga gc : Array GenState} {da dc : Drawn} {ra rc : Nat} {oa oc : OsState} {a C : Addr} (T : Raises X (.ref C)) (I1 : Inv X pins σ H1 ⟨ha, ga, da, ra, oa⟩)
    (lo : ha.objs.size ≤ a) (kp : ∀ b o, ha.get? b = some o → hb.get? b = some o) (un : Un (frs X.stack) [] (upd H1 a (exo a C none)) H2 hb hc) (hok : HOk X.prog X.w H2 hc) (eo : oc = oa) (bare : AllBare gc)
    (ea : H2 a = some (exo a C none)) (q : Q (.ref C) none (del H2 a)) : MkP X pins σ Q (.ref a) ⟨hc, gc, dc, rc, oc⟩ := by
  obtain ⟨tt0, hoe1⟩ := exo_at hok ea
  have n1 : H1 a = none := I1.hok.fresh lo
  obtain ⟨G, g1, g2⟩ := restrict hc fun b => decide (b ≠ a)
  have gk : ∀ b, b ≠ a → G.get? b = hc.get? b := fun b z => g1 b (decide_eq_true z)
  have ge : G.get? a = none := g2 a (by simp)
  have far : ∀ {b : Addr} {o : Obj}, ha.get? b = some o → b ≠ a := fun {b o} z => Nat.ne_of_lt (Nat.lt_of_lt_of_le (Heap.lt_size z) lo)
  have up : ∀ {b : Addr}, b ≠ a → H1 b = none → upd H1 a (exo a C none) b = none := fun {b} z n => by rw [upd_ne z]; exact n
  have U : Un (frs X.stack) [] H1 (del H2 a) ha G :=
    ⟨fun b o z n hf hx => by rw [gk b (far z)]; exact un.keep b o (kp b o z) (up (far z) n) hf hx,
     fun b o z n hf hx => by rw [gk b (far z)]; exact un.slot b o (kp b o z) (up (far z) n) hf hx,
     fun b o z n hx => by rw [del_ne (far z)]; exact un.free b o (kp b o z) (up (far z) n) hx,
     fun b o z hx => by rw [gk b (far z)]; exact un.there b o (kp b o z) hx,
     fun b xs z => by rw [del_ne (ne_of_none z n1)]; exact un.tups b xs (by rw [upd_ne (ne_of_none z n1)]; exact z),
     fun b o v z => by rw [del_ne (ne_of_none z n1)]; exact un.frzs b o v (by rw [upd_ne (ne_of_none z n1)]; exact z),
     fun b ps z => by rw [del_ne (ne_of_none z n1)]; exact un.tbls b ps (by rw [upd_ne (ne_of_none z n1)]; exact z)⟩
  have hok2 : HOk X.prog X.w (del H2 a) G := fun b o z => by
    have nba : b ≠ a := fun e => by
      rw [e, del_same] at z
      cases z
    rw [del_ne nba] at z
    have noa : ∀ {c : Addr}, H2 c = some (.own b) → c ≠ a := fun {c} y => at_ne ea y exo_own
    refine (hok b o z).stay (fun c v y w => ?_) (fun c y => by rw [del_ne (noa y)]; exact y) fun c xs y => by rw [del_ne (at_ne ea y exo_tup)]; exact y
    have hca : c ≠ a := by
      rcases y with y | y
      · rw [y]; exact nba
      · exact noa y
    rw [gk c hca]
    exact w
  have J : Inv X pins σ (del H2 a) ⟨G, gc, dc, rc, oc⟩ := I1.call' (ch := []) eo U hok2 bare (fun b z => absurd z (by simp))
  refine ⟨a, _, _, ⟨G, gc, dc, rc, oc⟩, _, .ref C, none, rfl, J, fun b o z => ?_, ge, hoe1, ⟨rfl, rfl⟩, rfl, rfl, del_same, rfl, bare, T, q⟩
  by_cases nba : b = a
  · rw [nba, ge] at z
    cases z
  · exact (gk b nba).symm.trans z
/-- C(), C's __init__ (its own, or one above) keeping sp -/
def tMk0 (C : Addr) (sp : Sp) : L2.St → Hp → XK → Prop := fun _ H Q => ∀ a, H a = none → sp [.ref a] (upd H a (exo a C none)) (fun v H2 => v = .non ∧ H2 a = some (exo a C none) ∧ Q (.ref C) none (del H2 a)) (fun _ _ _ => False)
theorem pmk_ox0 (T : OexC X.K C) (iC : PySem.W.findIn X.K (.ref C) "__init__" = some (some (.ref fI))) (tI : PySem.W.typeIn X.K (.ref fI) = some (.type "function")) (F : FnOk X.prog X.w X.K X.mg X.base CX k fI fd ps sp) (hr : Room (k + 1) X.A) (hb : Binds X.K fd ps [])
    (hx : Passes CX X (fun _ _ _ => False)) (hg : Gl X x) (hm : X.mg x = some (.ref C)) (hdb : (x == ("__debug__" : Str)) = false := by decide) : PMk X (.Call (.Name x p) [] [] pos) (tMk0 C sp) := by
  intro pins s σ H Q I h
  obtain ⟨nm, q, N, bs, bm, sn, sub, ab, col, dd, a0, a1, a2, a3, a5, hC, hbm⟩ := T.cls
  refine wpAny_Call_Name_kw (ld_glob I hg hm ?_ hdb)
  refine PySem.W.callWith_K0 I.kIn T.kC ?_
  show wpAny _ _ (call (.ref C) []) _ _ _
  obtain ⟨hp, ga, da, ra, oa⟩ := s
  have up : hp.objs.size ≤ hp.objs.size + 1 := Nat.le_succ _
  have nn : H (hp.objs.size + 1) = none := I.hok.fresh up
  have hq := h (hp.objs.size + 1) nn
  have kk : ∀ b o, hp.get? b = some o → ((hp.push (PySem.W.kdv_tup [])).push (PySem.HandSPX.excO C hp.objs.size)).get? b = some o := fun b o z => Heap.get?_push_of_some _ (Heap.get?_push_of_some _ z)
  have hget : ((hp.push (PySem.W.kdv_tup [])).push (PySem.HandSPX.excO C hp.objs.size)).get? (hp.objs.size + 1) = some (PySem.HandSPX.excO C hp.objs.size) := by heap_get
  have I2 : Inv X pins σ (upd H (hp.objs.size + 1) (exo (hp.objs.size + 1) C none)) ⟨(hp.push (PySem.W.kdv_tup [])).push (PySem.HandSPX.excO C hp.objs.size), ga, da, ra, oa⟩ :=
    I.laid (t' := ra) (a := hp.objs.size + 1) (o := exo (hp.objs.size + 1) C none) kk up (exo_ok hget)
  have r2 : Vals [V.ref (hp.objs.size + 1)] [Value.ref (hp.objs.size + 1)] := .cons rfl .nil
  have hl : ([Value.ref (hp.objs.size + 1)] ++ ([] : List Value)).length = ps.length := by
    have z := r2.length
    rw [F.len _ _ _ _ hq] at z
    exact z.symm
  refine wpAny_call (PySem.HandSPX.call_own PySem.F.excBase_ValueError (fun Y => PySem.HandSPX.refsVE_contains Y bm hbm) (I.kIn _ _ hC) (PySem.W.looks_findIn I.kIn iC) (fun self => PySem.W.bind_fn I.kIn self tI) (Nat.zero_le _) ?_)
  have e0 : ([Value.ref (hp.objs.size + 1)] ++ ([] : List Value)) = [Value.ref (hp.objs.size + 1)] := rfl
  refine codeAny_mono (F.run _ X.stack _ _ ⟨[Value.ref (hp.objs.size + 1)], []⟩ [Value.ref (hp.objs.size + 1)] _ _ (fun _ _ _ => False) (hr.make C [] []) (I2.env0.make C [] []) (hb _ [Value.ref (hp.objs.size + 1)] I2.kIn hl) r2 hq) fun r s2 hr2 => ?_
  cases r with
  | error er => exact hx pins σ _ _ er s2 I2 hr2
  | ok fl =>
    cases fl with
    | ret u =>
      obtain ⟨v, H2, os2, bare2, un2, hok2, rv, ev, ea, q2⟩ := hr2
      subst ev
      obtain ⟨hc, gc, dc, rc, oc⟩ := s2
      exact ⟨rv, mk0_end (raises_own T.exC T.tyC) I up kk un2 hok2 os2 bare2 ea q2⟩
    | next => exact False.elim hr2
    | brk => exact False.elim hr2
    | cont => exact False.elim hr2
end
end DV

set_option Elab.async false
set_option linter.all false
set_option maxRecDepth 100000
/-! DV10: errors raised and caught, lambdas handed over. -/
namespace DV
open PySem PySem.Spec PyProof.Rows L2
/-! ### raising -/
/-- what __init__(self) without fields keeps -/
def sp0 (K : PySem.W.Frag) : Sp := fun vs H Q _ => ∃ (a C : Addr), vs = [.ref a] ∧ OexC K C ∧ H a = some (exo a C none) ∧ Q .non H
/-- what __init__(self, f) with one field keeps -/
def sp1 (K : PySem.W.Frag) (f : Str) : Sp := fun vs H Q _ => ∃ (a C : Addr) (v : V), vs = [.ref a, v] ∧ OexC K C ∧ PySem.W.findIn K (.ref C) f = some none ∧ H a = some (exo a C none) ∧
  ∀ dx, H dx = none → dx ≠ a → Q .non (upd (upd H dx (exd dx [(f, v)])) a (exo a C (some dx)))
structure ErC (P : Program) (w : World) (G : Pg) (mg : Str → Option Value) (base : Heap) (x : Str) (k : Nat) (sp : Sp) : Prop where
  ex : ∃ C fI fd ps, G.ET x = some C ∧ mg x = some (.ref C) ∧ OexC G.K C ∧ PySem.W.findIn G.K (.ref C) "__init__" = some (some (.ref fI)) ∧ PySem.W.typeIn G.K (.ref fI) = some (.type "function") ∧ Binds G.K fd ps [] ∧ FnOk P w G.K mg base (L2.CX P w) k fI fd ps sp
theorem del_upd {H : Hp} {a : Addr} {o : HO} (h : H a = none) : del (upd H a o) a = H := by
  funext b
  by_cases e : b = a
  · rw [e, del_same, h]
  · rw [del_ne e, upd_ne e]
section
variable {S : Ent} {X : Cx} {x f : Str} {k : Nat} {e : Expr} {Te : Tm} {p pos pos2 : Pos}
def wRaise0 (x : Str) : Ts := fun env P => P.ex (x, []) env
def wRaise1 (x f : Str) (T : Tm) : Ts := fun env P => T env (fun d env1 => P.ex (x, [(f, d)]) env1) P.ex
theorem ds_raise0 (hc : X.calm = true) (hK : X.K = S.G.K) (c : ErC X.prog X.w S.G X.mg X.base x k (sp0 S.G.K)) (hr : Room (k + 1) X.A) (hg : Gl X x := by rfl) (hdb : (x == ("__debug__" : Str)) = false := by decide) :
    DS S X (.Raise (some (.Call (.Name x p) [] [] pos)) none pos2) (wRaise0 x) := ⟨fun W tk pa => by
  obtain ⟨C, fI, fd, ps, h1, h2, h3, h4, h5, h6, h7⟩ := c.ex
  rw [← hK] at h3 h4 h5 h6 h7
  refine ⟨_, ps_raise hc tk (pmk_ox0 h3 h4 h5 h7 hr h6 (passes_call tk fun _ _ _ _ z => z.elim) hg h2 hdb), fun Z env σ H P D' R hT f => ?_⟩
  intro a ha
  refine ⟨a, C, rfl, h3, upd_same, rfl, upd_same, ?_⟩
  rw [del_upd ha]
  exact f.ex σ Z env (.ref C) none (x, []) H R .refl ⟨C, h1, rfl, rfl⟩ hT⟩
theorem ds_raise1 (hc : X.calm = true) (hK : X.K = S.G.K) (c : ErC X.prog X.w S.G X.mg X.base x k (sp1 S.G.K f)) (hno : ∀ C, S.G.ET x = some C → PySem.W.findIn S.G.K (.ref C) f = some none) (hr : Room (k + 1) X.A) (ha : DE S X e Te) (hg : Gl X x := by rfl) (hdb : (x == ("__debug__" : Str)) = false := by decide)
    (he : starEach [e] X.env = (false, eval e X.env) :: starEach [] X.env := by rfl) : DS S X (.Raise (some (.Call (.Name x p) [e] [] pos)) none pos2) (wRaise1 x f Te) := ⟨fun W tk pa => by
  obtain ⟨C, fI, fd, ps, h1, h2, h3, h4, h5, h6, h7⟩ := c.ex
  rw [← hK] at h3 h4 h5 h6 h7
  obtain ⟨t, pp, q⟩ := ha.run W tk
  refine ⟨_, ps_raise hc tk (pmk_oex (ds := []) (dvs := []) h3 h4 h5 h7 hr h6 .nil (passes_call tk fun _ _ _ _ z => z.elim) hg h2 (pa_cons pp pa_nil he) hdb he rfl), fun Z env σ H P D' R hT fi => ?_⟩
  refine q Z env σ H _ _ _ R hT (fun Z1 env1 v d H1 R1 t1 r1 hq => ?_) ((fi.ex σ).ok R)
  refine ⟨by simp, fun a na => ?_⟩
  refine ⟨a, C, v, rfl, h3, by rw [hK]; exact hno C h1, upd_same, fun dx nd ne => ?_⟩
  have nd1 : H1 dx = none := by rw [upd_ne ne] at nd; exact nd
  refine ⟨rfl, dx, _, upd_same, by rw [upd_ne ne, upd_same], nd1, ?_⟩
  have eH : upd (del (upd (upd (upd H1 a (exo a C none)) dx (exd dx [(f, v)])) a (exo a C (some dx))) a) dx (.xd [(f, v)]) = upd H1 dx (.xd [(f, v)]) := by
    funext b
    by_cases hb : b = dx
    · rw [hb, upd_same, upd_same]
    · rw [upd_ne hb, upd_ne hb]
      by_cases hb2 : b = a
      · rw [hb2, del_same, na]
      · rw [del_ne hb2, upd_ne hb2, upd_ne hb, upd_ne hb2]
  rw [eH]
  have sm := same_upd (o := .xd [(f, v)]) nd1
  refine fi.ex σ Z1 env1 (.ref C) (some dx) (x, [(f, d)]) _ (R1.grow sm) ((R.vle t1).trans (R1.vle (.alloc sm))) ⟨C, h1, rfl, [(f, v)], [d], vis_out (R1.free nd1) upd_same, ?_, rfl⟩ hq
  exact .cons ((R1.vle (.alloc sm)).rep r1) .nil⟩
end
/-! ### try .. except C as n -/
theorem Rel.putPin {S : Ent} {Z : Zs} {env : Env} {σ : L2.St} {H : Hp} (R : Rel S Z env σ H) {i : Nat} {a : Addr} {dd : Option Addr} {fs : List (Str × D)} (h : ErD S.G (vis Z.O H) Z.h dd fs) : Rel S Z (env.set i (.pin a dd fs)) (σ.set i (some (.ref a))) H := by
  have R0 := R.drop1 (i := i) (v := some (.ref a))
  by_cases hi : i < env.length
  · have R1 := R0.reslot (i := i) (x := .pin a dd fs) (by rw [List.getElem?_set_self hi]) rfl ⟨by rw [List.getElem?_set_self (by rw [← R.len]; exact hi)], h⟩
    rw [List.set_set] at R1
    exact R1
  · have e1 : env.set i .no = env := List.set_eq_of_length_le (by omega)
    have e2 : env.set i (.pin a dd fs) = env := List.set_eq_of_length_le (by omega)
    rw [e1] at R0
    rw [e2]
    exact R0
def wTry (i : Nat) (B : Ts) (Bh : Addr → Option Addr → Er → Ts) : Ts := fun env P => B env { P with ex := fun er env1 => ∀ a dd, Bh a dd er (env1.set i (.pin a dd er.2)) { nx := fun e => P.nx (e.set i .no), rt := P.rt, bk := fun e => P.bk (e.set i .no), ct := fun e => P.ct (e.set i .no), ex := fun _ _ => False, rf := P.rf } }
theorem ds_try {S : Ent} {X : Cx} (i : Nat) {x n : Str} {C0 : Addr} {body suite : List Stmt} {b0 : Stmt} {np pos pos' : Pos} {B : Ts} {Bh : Addr → Option Addr → Er → Ts} (hs : X.stack = X.env :: X.outer) (hf : X.env.frame = some X.env.locals) (hN : X.N.Nodup) (hcl : ∀ y C, S.G.ET y = some C → PySem.W.exmOne X.K (.ref C) (.ref C0) = some true)
    (hm : X.mg x = some (.ref C0)) (hb : ∀ pn xe, DSs S (X.tr pn xe) body B)
    (hh : ∀ (a : Addr) (oe : Obj) (C : Addr) (dd : Option Addr) (pn : List (Addr × Obj)) (er : Er), Zc (.ref C) dd oe → (∃ vs, oe.data = .fields vs) → S.G.ET er.1 = some C → DSs S (X.suite a ((a, oe) :: pn)) (b0 :: suite) (Bh a dd er))
    (hi : X.N[i]? = some n := by rfl) (hln : X.env.kindOf n = some .local := by rfl) (hg : Gl X x := by rfl) (hdb : (x == ("__debug__" : Str)) = false := by decide) :
    DS S X (.Try body [.ExceptHandler (some (.Name x np)) (some n) (b0 :: suite) pos'] [] [] pos) (wTry i B Bh) := ⟨fun W tk pa => by
  let ts : Addr → Value → Option Addr → TS := fun a cls dd D σ H => ∃ (er : Er) (C : Addr), cls = .ref C ∧ S.G.ET er.1 = some C ∧ ∀ (oe : Obj) (pn : List (Addr × Obj)) (hz : Zc (.ref C) dd oe) (hd : ∃ vs, oe.data = .fields vs) (hc : S.G.ET er.1 = some C),
    Classical.choose ((hh a oe C dd pn er hz hd hc).run (fun _ _ _ _ => False) LamX.takes0 PassesOwn.never) D σ H
  let tb : WX → TS := fun W D σ H => ∀ pn xe (tk : Takes (X.tr pn xe) W) (pa : PassesOwn (model X.prog X.w) X.A X.env xe), Classical.choose ((hb pn xe).run W tk pa) D σ H
  refine ⟨_, ps_try_as (tb := tb) (ts := ts) hs hf hN hi hln ⟨hg, hdb, .inl hm⟩ tk (fun W pn xe tk pa => ⟨fun pins s σ H D I h => ?_⟩) (fun a oe cls dd pn hz hd => ⟨fun pins s σ H D I h => ?_⟩), fun Z env σ H P D' R hT f => ?_⟩
  · exact (Classical.choose_spec ((hb pn xe).run W tk pa)).1.run pins s σ H D I (h pn xe tk pa)
  · obtain ⟨er, C, rfl, hc, h⟩ := h
    exact (Classical.choose_spec ((hh a oe C dd pn er hz hd hc).run (fun _ _ _ _ => False) LamX.takes0 PassesOwn.never)).1.run pins s σ H D I (h oe pn hz hd hc)
  · intro pn xe tk' pa'
    refine (Classical.choose_spec ((hb pn xe).run _ tk' pa')).2 Z env σ H _ D' R hT ⟨f.nx, f.rt, f.bk, f.ct, fun σ2 Z1 env1 cls dd er H1 R1 v1 eo hx => ?_, f.rf⟩
    obtain ⟨C, h1, h2, h3⟩ := eo
    subst h2
    refine ⟨true, hcl _ _ h1, fun _ a na => ⟨er, C, rfl, h1, fun oe pn hz hd hc => ?_⟩, fun z => nomatch z⟩
    have f1 := f.on v1
    refine (Classical.choose_spec ((hh a oe C dd pn er hz hd hc).run (fun _ _ _ _ => False) LamX.takes0 PassesOwn.never)).2 Z1 _ _ H1 _ _ (R1.putPin h3) (hx a dd)
      ⟨fun Z' e s H' R' v h => ?_, f1.rt, fun Z' e s H' R' v h => ?_, fun Z' e s H' R' v h => ?_, fun _ _ _ _ _ _ _ _ _ _ h => h.elim, f1.rf⟩
    · exact f1.nx Z' _ _ H' R'.drop1 v h
    · exact f1.bk Z' _ _ H' R'.drop1 v h
    · exact f1.ct Z' _ _ H' R'.drop1 v h⟩
/-! ### a caught error looked at -/
/-- what the error classes say -/
structure ErrCls (G : Pg) : Prop where
  ec : ∀ n D, G.ET n = some D → ExcC G.K D
  xf : ∀ n D, G.ET n = some D → XfC G.K D
/-- isinstance(e, c): cv the class c, sub the errors' names that it holds -/
structure KitE (G : Pg) (cv : Value) (sub : Str → Bool) : Prop where
  at_ : ∀ n D, G.ET n = some D → PySem.W.kitOne G.K (.ref D) cv = some (sub n)
def rIsE2 (K : PySem.W.Frag) (D a : Addr) (dd : Option Addr) : List V → Hp → VK → Prop := fun xs H Q => ∃ (c : V) (cv : Value) (b : Bool), xs = [.ref a, c] ∧ (∀ u, RelV c u → u = cv) ∧ PySem.W.kitOne K (.ref D) cv = some b ∧ (∀ p, dd = some p → ∃ o, H p = some (.xd o)) ∧ Q (.bl b) H
theorem call_isE2 {X : Cx} {a D : Addr} {dd : Option Addr} {oe : Obj} {pn : List (Addr × Obj)} (C : ExcC X.K D) (hz : Zc (.ref D) dd oe) (hf : ∃ vs, oe.data = .fields vs) : CallR (X.suite a ((a, oe) :: pn)) (.builtin "isinstance") (rIsE2 X.K D a dd) := by
  intro pins s σ H xs us Q I r h
  obtain ⟨c, cv, b, rfl, hcv, ek, hp, q⟩ := h
  cases r with
  | cons rx rr =>
    cases rr with
    | cons rt rr =>
      cases rr
      cases rx
      have ec := hcv _ rt
      subst ec
      obtain ⟨hget, _⟩ := I.pin (a, oe) (List.mem_append.mpr (.inl List.mem_cons_self))
      obtain ⟨vs, hv⟩ := hf
      have hcl : (PySem.W.clsIn X.K D).isSome = true := by
        obtain ⟨cd, hc, _⟩ := PySem.W.any_some C.hd
        rw [hc]; rfl
      have nc : PySem.W.notCls oe = true := by
        unfold PySem.W.notCls
        rw [hv] <;> rfl
      have key : ∀ od : Option Obj, PySem.W.InstAt s.heap a oe D od → wpAny (model (X.suite a ((a, oe) :: pn)).prog (X.suite a ((a, oe) :: pn)).w) (X.suite a ((a, oe) :: pn)).A (call (.builtin "isinstance") [.ref a, _]) (EP (X.suite a ((a, oe) :: pn)) pins σ Q) (X.suite a ((a, oe) :: pn)).xe s := fun od J =>
        PySem.W.kia_one (PySem.W.kitx_exc hcl C.hg C.hk C.hs C.ha C.hn C.ht C.hm) I.kIn J ek (fun z => nomatch z) fun tk => ⟨.bl b, H, I.kept (t' := tk) fun _ _ z => z, rfl, q⟩
      cases dd with
      | none =>
        refine key none ⟨hget, hz.1, nc, ?_⟩
        rw [hz.2]
        trivial
      | some p =>
        obtain ⟨o, ho⟩ := hp p rfl
        have hx : ObjOk X.prog X.w H s.heap p (.xd o) := I.hok p _ ho
        obtain ⟨mA, hns, _⟩ := hx
        obtain ⟨od, hod, _⟩ := lookIn_ns hns
        refine key (some od) ⟨hget, hz.1, nc, ?_⟩
        rw [hz.2]
        exact hod
def wIsE (i : Nat) (a : Addr) (dd : Option Addr) (er : Er) (sub : Str → Bool) : Tm := fun env Q _ => env[i]? = some (.pin a dd er.2) ∧ Q (.bl (sub er.1)) env
def wErF (i : Nat) (a : Addr) (dd : Option Addr) (er : Er) (f : Str) : Tm := fun env Q _ => env[i]? = some (.pin a dd er.2) ∧ ∃ d, er.2.lookup f = some d ∧ Q d env
theorem zip_lookup {G : Pg} {H : Hp} {hh : Option Addr} {f : Str} {d : D} : ∀ {vfs : List (Str × V)} {ds : List D}, RepL G H hh (vfs.map (·.2)) ds → ((vfs.map (·.1)).zip ds).lookup f = some d → ∃ v, vfs.lookup f = some v ∧ Rep G H hh v d
  | [], ds, r, e => by
    cases r
    cases e
  | (g, v) :: vfs, ds, r, e => by
    cases r with
    | cons r1 r2 =>
      rw [List.map_cons, List.zip_cons_cons, List.lookup_cons] at e
      rw [List.lookup_cons]
      by_cases q : (f == g) = true
      · rw [q] at e ⊢
        cases e
        exact ⟨v, rfl, r1⟩
      · rw [Bool.not_eq_true] at q
        rw [q] at e ⊢
        exact zip_lookup r2 e
section
variable {S : Ent} {X : Cx} {a D : Addr} {dd : Option Addr} {oe : Obj} {pn : List (Addr × Obj)} {er : Er} {n cn f : Str} {p p1 p2 pos : Pos}
theorem dx_isE (i : Nat) {cv : Value} {cV : V} {sub : Str → Bool} (hK : X.K = S.G.K) (ec : ErrCls S.G) (hz : Zc (.ref D) dd oe) (hf : ∃ vs, oe.data = .fields vs) (hD : S.G.ET er.1 = some D) (ke : KitE S.G cv sub) (hm : X.mg "isinstance" = none) (hv : bootBuiltins "isinstance" = some (.builtin "isinstance"))
    (pc : PE (X.suite a ((a, oe) :: pn)) (.Name cn p2) (tC cV)) (rc : ∀ u, RelV cV u → u = cv) (hN : X.N[i]? = some n := by rfl) (hvi : Vis X.env.scope n := by first | exact Or.inl rfl | exact Or.inr (Or.inl rfl) | exact Or.inr (Or.inr rfl)) (hg : Gl X "isinstance" := by rfl)
    (hd : (n == ("__debug__" : Str)) = false := by decide) (hcd : (n == ("__classdict__" : Str)) = false := by decide) :
    DE S (X.suite a ((a, oe) :: pn)) (.Call (.Name "isinstance" p) [.Name n p1, .Name cn p2] [] pos) (wIsE i a dd er sub) := ⟨fun W tk => by
  have ex := ec.ec _ _ hD
  have kk := ke.at_ _ _ hD
  rw [← hK] at ex kk
  refine ⟨_, pe_callB (call_isE2 ex hz hf) hg hm hv (pa_cons (pe_var (i := i) hN hvi hd hcd) (pa_cons pc pa_nil rfl) rfl) (by decide) (by decide) rfl rfl, fun Z env σ H Q E Q' R hT k x => ?_⟩
  obtain ⟨e0, hq⟩ := hT
  have sl := R.slots i _ e0
  refine ⟨.ref a, sl.1, ?_⟩
  refine ⟨cV, cv, _, rfl, rc, kk, fun q hq => ?_, k Z env _ _ H R .refl (.bl _) hq⟩
  subst hq
  obtain ⟨vfs, ds, h1, _⟩ := sl.2
  exact ⟨vfs, (vis_some h1).2⟩⟩
theorem dx_erF (i : Nat) (hK : X.K = S.G.K) (ec : ErrCls S.G) (hz : Zc (.ref D) dd oe) (hf : ∃ vs, oe.data = .fields vs) (hD : S.G.ET er.1 = some D) (hno : ∀ y C, S.G.ET y = some C → PySem.W.findIn S.G.K (.ref C) f = some none)
    (hN : X.N[i]? = some n := by rfl) (hvi : Vis X.env.scope n := by first | exact Or.inl rfl | exact Or.inr (Or.inl rfl) | exact Or.inr (Or.inr rfl)) (hd : (n == ("__debug__" : Str)) = false := by decide) (hcd : (n == ("__classdict__" : Str)) = false := by decide) :
    DE S (X.suite a ((a, oe) :: pn)) (.Attribute (.Name n p1) f pos) (wErF i a dd er f) := ⟨fun W tk => by
  have ex := ec.xf _ _ hD
  have kk := hno _ _ hD
  rw [← hK] at ex kk
  refine ⟨_, pe_xf ex kk hz hf (pe_var (i := i) hN hvi hd hcd), fun Z env σ H Q E Q' R hT k x => ?_⟩
  obtain ⟨e0, d, hl, hq⟩ := hT
  have sl := R.slots i _ e0
  refine ⟨.ref a, sl.1, rfl, rfl, ?_⟩
  cases dd with
  | none =>
    have z : er.2 = [] := sl.2
    rw [z] at hl
    cases hl
  | some q =>
    obtain ⟨vfs, ds, h1, h2, h3⟩ := sl.2
    rw [h3] at hl
    obtain ⟨v, h4, h5⟩ := zip_lookup h2 hl
    exact ⟨q, vfs, v, rfl, (vis_some h1).2, h4, k Z env _ _ H R .refl h5 hq⟩⟩
end
/-! ### xs.count(y), xs.index(y): flat items -/
def flD : D → Bool
  | .non => true
  | .bl _ => true
  | .int _ => true
  | .str _ => true
  | _ => false
theorem flat_rep {G : Pg} {Z : Zs} {H : Hp} {v : V} {d : D} (r : RB G Z H v d) (f : flD d = true) : flatV v = true ∧ (∀ v2 d2, RB G Z H v2 d2 → flD d2 = true → eqV v v2 = eqD d d2) := by
  cases d with
  | non =>
    rw [r.non]
    refine ⟨rfl, fun v2 d2 r2 f2 => ?_⟩
    cases d2 with
    | non => rw [r2.non]; unfold eqD; rw [pd, PyData.eqv]; rfl
    | bl b => rw [r2.bl]; unfold eqD; rw [pd, pd, PyData.eqv]; rfl
    | int b => rw [r2.int]; unfold eqD; rw [pd, pd, PyData.eqv]; rfl
    | str b => rw [r2.str]; unfold eqD; rw [pd, pd, PyData.eqv]; rfl
    | _ => cases f2
  | bl c =>
    rw [r.bl]
    refine ⟨rfl, fun v2 d2 r2 f2 => ?_⟩
    cases d2 with
    | non => rw [r2.non]; unfold eqD; rw [pd, pd, PyData.eqv]; rfl
    | bl b => rw [r2.bl]; unfold eqD; rw [pd, pd, PyData.eqv]; rfl
    | int b => rw [r2.int]; unfold eqD; rw [pd, pd, PyData.eqv]; rfl
    | str b => rw [r2.str]; unfold eqD; rw [pd, pd, PyData.eqv]; rfl
    | _ => cases f2
  | int c =>
    rw [r.int]
    refine ⟨rfl, fun v2 d2 r2 f2 => ?_⟩
    cases d2 with
    | non => rw [r2.non]; unfold eqD; rw [pd, pd, PyData.eqv]; rfl
    | bl b => rw [r2.bl]; unfold eqD; rw [pd, pd, PyData.eqv]; rfl
    | int b => rw [r2.int]; unfold eqD; rw [pd, pd, PyData.eqv]; rfl
    | str b => rw [r2.str]; unfold eqD; rw [pd, pd, PyData.eqv]; rfl
    | _ => cases f2
  | str c =>
    rw [r.str]
    refine ⟨rfl, fun v2 d2 r2 f2 => ?_⟩
    cases d2 with
    | non => rw [r2.non]; unfold eqD; rw [pd, pd, PyData.eqv]; rfl
    | bl b => rw [r2.bl]; unfold eqD; rw [pd, pd, PyData.eqv]; rfl
    | int b => rw [r2.int]; unfold eqD; rw [pd, pd, PyData.eqv]; rfl
    | str b => rw [r2.str]; unfold eqD; rw [pd, pd, PyData.eqv]; rfl
    | _ => cases f2
  | _ => cases f
theorem flat_repL {G : Pg} {Z : Zs} {H : Hp} {y : V} {e : D} (ry : RB G Z H y e) (fe : flD e = true) : ∀ {vs : List V} {ds : List D}, RepL G (vis Z.O H) Z.h vs ds → ds.all flD = true → vs.all flatV = true ∧ vs.countP (fun z => eqV z y) = ds.countP (fun z => eqD z e) ∧
    ∀ (i : Nat) (v : V) (d : D), vs[i]? = some v → ds[i]? = some d → eqV v y = eqD d e
  | _, _, .nil, _ => ⟨rfl, rfl, fun i v d h => by simp at h⟩
  | _, _, .cons (v := v) (d := d) r rs, f => by
    rw [List.all_cons, Bool.and_eq_true] at f
    obtain ⟨h1, h2, h3⟩ := flat_repL ry fe rs f.2
    obtain ⟨g1, g2⟩ := flat_rep (.inl r) f.1
    have e1 := g2 y e ry fe
    refine ⟨by rw [List.all_cons, g1, h1]; rfl, by rw [List.countP_cons, List.countP_cons, h2, e1], fun i v' d' q1 q2 => ?_⟩
    match i with
    | 0 => cases q1; cases q2; exact e1
    | i + 1 => exact h3 i v' d' (by simpa using q1) (by simpa using q2)
def rCntF (K : PySem.W.Frag) : V → List V → Hp → VK → Prop := fun x xs H Q => ∃ (a : Addr) (ys : List V) (y : V), x = .ref a ∧ xs = [y] ∧ SqL K H a ys ∧ flatV y = true ∧ ys.all flatV = true ∧ Q (.int (ys.countP fun z => eqV z y : Nat)) H
theorem count_of {y : V} : ∀ {ys : List V} {us : List Value}, Vals ys us → ys.all flatV = true → us.countP (eqU y) = ys.countP fun z => eqV z y
  | _, _, .nil, _ => rfl
  | _, _, .cons r t, f => by
    rw [List.all_cons, Bool.and_eq_true] at f
    rw [List.countP_cons, List.countP_cons, count_of t f.2, eqU_of r f.1]
theorem mt_countF {X : Cx} : MtR X "list.count" (rCntF X.K) := by
  intro pins s σ H x xs v us Q I rx rxs h
  obtain ⟨a, ys, y, rfl, rfl, hs, fy, fys, q⟩ := h
  cases rx
  cases rxs with
  | cons ry rt =>
    rename_i uy ut
    cases rt
    obtain ⟨its, rv, ⟨⟨cls, dd, data, sl⟩, n, ho, hc, hdn, hd⟩, hlen⟩ := I.list hs
    simp only at hc hd
    subst hc hd
    refine call_meets PySem.F.slot_list_count ⟨_, ho, rfl⟩ PySem.F.entry_list_count (PySem.F.args_list_count_2 _ _)
      (SeqAt.list_countAt a its.toArray n dd sl uy (eqU y)) ⟨ho, fun u' hu' => mem_eqAt ry fy rv fys u' (by simpa using hu'), ?_⟩
    refine ⟨.int (ys.countP fun z => eqV z y : Nat), H, I.tok _, ⟨s.toks, ?_⟩, q⟩
    have e1 : its.toArray.toList.countP (eqU y) = ys.countP fun z => eqV z y := count_of rv fys
    show Value.int ((its.toArray.toList.countP (eqU y) : Nat) : Int) s.toks = _
    rw [e1]
def wLM (g : D → D → (D → Prop) → Prop) (Ta Tb : Tm) : Tm := fun env Q E => Ta env (fun x env1 => (∃ xs, x = .lst xs) ∧ Tb env1 (fun y env2 => g x y fun z => Q z env2) E) E
def gCnt : D → D → (D → Prop) → Prop := fun x y Q => match x with
  | .lst xs => flD y = true ∧ xs.all flD = true ∧ Q (.int (xs.countP fun z => eqD z y : Nat))
  | _ => False
def gIdx : D → D → (D → Prop) → Prop := fun x y Q => match x with
  | .lst xs => flD y = true ∧ xs.all flD = true ∧ ∃ j : Nat, xs.findIdx? (fun z => eqD z y) = some j ∧ Q (.int (j : Nat))
  | _ => False
section
variable {S : Ent} {X : Cx} {a b : Expr} {Ta Tb : Tm} {apos cpos : Pos}
theorem dx_cnt (hK : X.K = S.G.K) (ha : DB S X a Ta) (hb : DB S X b Tb) (hbase : attributeBase a "count" X.env (eval a X.env) = eval a X.env := by rfl)
    (hfew : ((backTo cpos (starEach [b] X.env)).all (fun x => !x.1) && (backToKw cpos (keywordEach [] X.env)).all (fun x => x.1.isSome) && decide (([b] : List Expr).length + ([] : List Keyword).length + (if ([] : List Keyword).isEmpty then 0 else 1) < 30)) = true := by rfl)
    (hline : (apos.endLine == cpos.line) = true := by rfl) (hs : starEach [b] X.env = (false, eval b X.env) :: starEach [] X.env := by rfl) : DE S X (.Call (.Attribute a "count" apos) [b] [] cpos) (wLM gCnt Ta Tb) := ⟨fun W tk => by
  obtain ⟨ta, pa, ra⟩ := ha.run W tk
  obtain ⟨tb, pb, rb⟩ := hb.run W tk
  refine ⟨_, pe_bm PySem.F.plainAttrs_list PySem.F.slot_list_count PySem.F.type_list_count mt_countF pa (pa_cons pb pa_nil hs) hbase hfew hline hs rfl, fun Z env σ H Q E Q' R hT k x => ?_⟩
  refine ra Z env σ H _ E _ R hT (fun Z1 env1 v d H1 R1 t1 r1 h1 => ?_) x
  obtain ⟨⟨xs, rfl⟩, h1⟩ := h1
  obtain ⟨p, vs, rfl, ep, rp⟩ := r1.lst
  refine ⟨.inl ⟨rfl, vs, SqL.of ep⟩, ?_⟩
  refine rb Z1 env1 σ H1 _ E _ R1 h1 (fun Z2 env2 y e H2 R2 t2 r2 h2 => ?_) (x.on R1 t1)
  obtain ⟨fe, fx, h2⟩ := h2
  obtain ⟨p', vs', ep, e2, rp2⟩ := (r1.on R1 t2).lst
  cases ep
  obtain ⟨g1, g2, _⟩ := flat_repL r2 fe rp2 fx
  refine ⟨p, vs', y, rfl, rfl, SqL.of e2, (flat_rep r2 fe).1, g1, ?_⟩
  rw [g2]
  exact k Z2 env2 _ _ H2 R2 (Tr.trans R1 t1 t2) (.int _) h2⟩
theorem dx_idx (hK : X.K = S.G.K) (ha : DB S X a Ta) (hb : DB S X b Tb) (hbase : attributeBase a "index" X.env (eval a X.env) = eval a X.env := by rfl)
    (hfew : ((backTo cpos (starEach [b] X.env)).all (fun x => !x.1) && (backToKw cpos (keywordEach [] X.env)).all (fun x => x.1.isSome) && decide (([b] : List Expr).length + ([] : List Keyword).length + (if ([] : List Keyword).isEmpty then 0 else 1) < 30)) = true := by rfl)
    (hline : (apos.endLine == cpos.line) = true := by rfl) (hs : starEach [b] X.env = (false, eval b X.env) :: starEach [] X.env := by rfl) : DE S X (.Call (.Attribute a "index" apos) [b] [] cpos) (wLM gIdx Ta Tb) := ⟨fun W tk => by
  obtain ⟨ta, pa, ra⟩ := ha.run W tk
  obtain ⟨tb, pb, rb⟩ := hb.run W tk
  refine ⟨_, pe_bm PySem.F.plainAttrs_list PySem.F.slot_list_index PySem.F.type_list_index mt_index pa (pa_cons pb pa_nil hs) hbase hfew hline hs rfl, fun Z env σ H Q E Q' R hT k x => ?_⟩
  refine ra Z env σ H _ E _ R hT (fun Z1 env1 v d H1 R1 t1 r1 h1 => ?_) x
  obtain ⟨⟨xs, rfl⟩, h1⟩ := h1
  obtain ⟨p, vs, rfl, ep, rp⟩ := r1.lst
  refine ⟨.inl ⟨rfl, vs, SqL.of ep⟩, ?_⟩
  refine rb Z1 env1 σ H1 _ E _ R1 h1 (fun Z2 env2 y e H2 R2 t2 r2 h2 => ?_) (x.on R1 t1)
  obtain ⟨fe, fx, j, hj, h2⟩ := h2
  obtain ⟨p', vs', ep, e2, rp2⟩ := (r1.on R1 t2).lst
  cases ep
  obtain ⟨g1, _, g3⟩ := flat_repL r2 fe rp2 fx
  obtain ⟨hjl, hj1, hj2⟩ := List.findIdx?_eq_some_iff_getElem.mp hj
  have hl := rp2.length
  have hv : vs'[j]? = some vs'[j] := List.getElem?_eq_getElem (by omega)
  refine ⟨p, vs', y, j, vs'[j], rfl, rfl, SqL.of e2, (flat_rep r2 fe).1, g1, hv, ?_, fun m z' hm hz => ?_, k Z2 env2 _ _ H2 R2 (Tr.trans R1 t1 t2) (.int _) h2⟩
  · rw [g3 j _ _ hv (List.getElem?_eq_getElem hjl)]; exact hj1
  · rw [g3 m _ _ hz (List.getElem?_eq_getElem (by omega))]
    have := hj2 m hm
    simpa using this⟩
end
end DV

set_option Elab.async false
set_option linter.all false
set_option maxRecDepth 100000
set_option maxHeartbeats 2100000
/-! DVL: a lambda handed to a def, the tables kept, an error of the call told at the caller's slots. -/
namespace DV
open PySem PySem.Spec PyProof.Rows L2 LamX
/-- as ExtN, and tables stay tables -/
def ExtT (H H' : Hp) : Prop := ExtN H H' ∧ ∀ b ps, H b = some (.tbl ps) → ∃ ps', H' b = some (.tbl ps')
section
variable {X : Cx} {pz : List (Addr × Obj)} {σ : L2.St} {H : Hp} {s : Shared}
theorem lam_make3 {T : List (Addr × Str)} {c P : Addr} {pa : Arguments} {bd : Expr} {sc : Scope} {lp : Pos} {E : Value → Shared → Prop} {Q : Value → Shared → Prop} (I : Inv X pz σ H s) (B : TabB X.base X.mg c P) (hc : X.env.code = .ref c)
    (mT : (P, X.env.qual ++ "<lambda>") ∈ T) (uT : ∀ p ∈ T, p.1 = P → p.2 = X.env.qual ++ "<lambda>") (tT : Tabs T H) (nd : defaultsOf pa X.env = ([], [])) (fr : ∀ y ∈ sc.names, y.2 = .free → ∃ c, X.env.cells.lookup y.1 = some c)
    (k : ∀ (f c' : Addr) (pm ctv : Value) (H1 : Hp) (s1 : Shared), Inv X pz σ H1 s1 → ExtT H H1 → Tabs T H1 →
      s1.heap.get? f = some (PySem.W.kla_obj "<lambda>" (X.env.qual ++ "<lambda>") pa bd sc (cloFrom X.env.cells sc.names []) pm c' ctv) → H1 f = none → f ∉ frs X.stack → H1 c' = some (CodeO c' (X.env.qual ++ "<lambda>")) → Q (.ref f) s1) :
    wpAny (model X.prog X.w) X.A (eval (.Lambda pa bd sc lp) X.env) Q E s := by
  obtain ⟨qs, eP, tr, am⟩ := tT _ mT
  have gP : s.heap.get? P = some { cls := .none, data := .fields qs } := I.hok P _ eP
  have far : ∀ g, s.heap.objs.size ≤ g → g ∉ frs X.stack := fun g lg z => by
    rcases List.mem_cons.mp (I.stkSub g z) with e | e
    · have l := I.lt
      rw [← e] at l
      exact Nat.lt_irrefl _ (Nat.lt_of_lt_of_le l lg)
    · exact I.nofs lg e
  refine PySem.W.kla_eval nd ?_
  cases eA : codeAmong lp qs.toList with
  | some cv =>
    obtain ⟨c', rfl, co⟩ := am lp cv eA
    refine PySem.W.kla_makeFunctionHit (mg := X.mg) (c := c) (P := P) (ps := qs) (closure_ok fr) I.ok.glob (I.mod.glob.keeps I.bk) hc (B.code.keeps I.bk) gP tr eA (B.bm.keeps I.bk) fun ctv hh tk xx sz => ?_
    have J : Inv X pz σ H { s with heap := hh.push (PySem.W.kla_obj "<lambda>" (X.env.qual ++ "<lambda>") pa bd sc (cloFrom X.env.cells sc.names []) ((X.mg "__name__").getD .none) c' ctv), toks := tk } := I.kept fun b o e => Heap.get?_push_of_some _ (xx b o e)
    exact k hh.objs.size c' ((X.mg "__name__").getD .none) ctv H _ J ⟨ExtN.refl H, fun b ps e => ⟨ps, e⟩⟩ tT (Heap.get?_push_size _ rfl) (I.hok.fresh sz) (far _ sz) co
  | none =>
    refine PySem.W.kla_makeFunction (mg := X.mg) (c := c) (P := P) (ps := qs) (closure_ok fr) I.ok.glob (I.mod.glob.keeps I.bk) hc (B.code.keeps I.bk) gP tr eA B.gP (B.bm.keeps I.bk) fun c' ctv hh tk xx ge lt rec tb => ?_
    obtain ⟨c2, oc, vs, t, e2, g1, g2, g3⟩ := rec
    cases e2
    have sz : s.heap.objs.size ≤ hh.objs.size := Nat.le_trans ge (Nat.le_of_lt lt)
    have nC : H c' = none := I.hok.fresh ge
    have J := inv_table (t' := tk) (more := #[rawInt lp.line, rawInt lp.col, .ref c']) (h' := hh.push (PySem.W.kla_obj "<lambda>" (X.env.qual ++ "<lambda>") pa bd sc (cloFrom X.env.cells sc.names []) ((X.mg "__name__").getD .none) c' ctv)) I eP
      (fun b o n e => Heap.get?_push_of_some _ (xx b o n e)) (Heap.get?_push_of_some _ tb) ge ⟨oc, vs, t, Heap.get?_push_of_some _ g1, g2, g3⟩
    have nPc : P ≠ c' := ne_of_none eP nC
    have eT : upd (upd H P (.tbl (qs ++ #[rawInt lp.line, rawInt lp.col, .ref c']))) c' (CodeO c' (X.env.qual ++ "<lambda>")) P = some (.tbl (qs ++ #[rawInt lp.line, rawInt lp.col, .ref c'])) := by rw [upd_ne nPc, upd_same]
    have xN : ExtN H (upd (upd H P (.tbl (qs ++ #[rawInt lp.line, rawInt lp.col, .ref c']))) c' (CodeO c' (X.env.qual ++ "<lambda>"))) := fun b o e n => by
      rw [upd_ne (ne_of_none e nC), upd_ne (fun z => n qs (Option.some.inj (e.symm.trans (by rw [z]; exact eP))))]
      exact e
    have snoc : (qs ++ #[rawInt lp.line, rawInt lp.col, .ref c']).toList = qs.toList ++ [rawInt lp.line, rawInt lp.col, .ref c'] := by simp
    refine k hh.objs.size c' ((X.mg "__name__").getD .none) ctv _ _ J ⟨xN, fun b ps e => ?_⟩ (fun p hp => ?_) (Heap.get?_push_size _ rfl) ?_ (far _ sz) upd_same
    · by_cases hb : b = P
      · rw [hb]; exact ⟨_, eT⟩
      · exact ⟨ps, by rw [upd_ne (ne_of_none e nC), upd_ne hb]; exact e⟩
    · by_cases hb : p.1 = P
      · rw [uT p hp hb, hb]
        refine ⟨_, eT, by rw [snoc]; exact PySem.TriplesOk_snoc _ _ _ _ tr, fun q cv hcv => ?_⟩
        rw [snoc] at hcv
        rcases among_app _ tr hcv with z | z
        · obtain ⟨c0, e1, e2⟩ := am q cv z
          exact ⟨c0, e1, xN _ _ e2 codeO_ne⟩
        · exact ⟨c', z, upd_same⟩
      · obtain ⟨rs, a1, a2, a3⟩ := tT p hp
        refine ⟨rs, by rw [upd_ne (ne_of_none a1 nC), upd_ne hb]; exact a1, a2, fun q cv hcv => ?_⟩
        obtain ⟨c0, e1, e2⟩ := a3 q cv hcv
        exact ⟨c0, e1, xN _ _ e2 codeO_ne⟩
    · rw [upd_ne (Nat.ne_of_gt lt), upd_ne (Nat.ne_of_gt (Nat.lt_of_lt_of_le (Heap.lt_size gP) sz))]
      exact I.hok.fresh sz
/-- y(), in the def that got the lambda; an error of it is told at the slots there -/
theorem act2 {CXh : CXT} {Eh : XK} {Nh : List Str} {qh : Str} {sh : Scope} {g f c' : Addr} {cdh pm ctv : Value} {pa : Arguments} {bd : Expr} {sc : Scope} {k i : Nat} {a : Str} {pn : List (Addr × Obj)} {xe : Value → Shared → Prop} {W : WX} {tb : XK → TE} {p1 p2 : Pos}
    (I : Inv X pz σ H s) (L : LamS X.env.scope sc) (hf : s.heap.get? f = some (PySem.W.kla_obj "<lambda>" (X.env.qual ++ "<lambda>") pa bd sc (cloFrom X.env.cells sc.names []) pm c' ctv)) (nf : H f = none) (ff : f ∉ frs X.stack)
    (hb : bindArgs (PySem.W.kla_fn "<lambda>" (X.env.qual ++ "<lambda>") pa bd sc (cloFrom X.env.cells sc.names []) pm (.ref c') ctv) ⟨[], []⟩ = pure [])
    (tk : Takes ((cxOf CXh X.prog X.w X.K X.mg X.base Nh qh sh g cdh X.A X.stack s H Eh).tr pn xe) W) (hr : Room (k + 1) (X.A.deeper (envOfC qh sh s.heap.objs.size g cdh)))
    (hbd : ∀ (E : XK) (A : Around) (outer : List PySem.Env) (s : Shared) (H : Hp), Room k (A.deeper (lamEnv X sc s.heap.objs.size f c')) → PE (lamCx X A outer s H E sc f c') bd (tb E))
    (hN : Nh[i]? = some a) (hv : Vis sh a) (hd : (a == ("__debug__" : Str)) = false := by decide) (hcd : (a == ("__classdict__" : Str)) = false := by decide) :
    PE ((cxOf CXh X.prog X.w X.K X.mg X.base Nh qh sh g cdh X.A X.stack s H Eh).tr pn xe) (.Call (.Name a p1) [] [] p2)
      (fun σY HY Q => σY[i]? = some (some (.ref f)) ∧ HY c' = some (CodeO c' (X.env.qual ++ "<lambda>")) ∧ ∃ E : XK, (∀ cls d H', E cls d H' → W cls d σY H') ∧ tb E σ HY Q) := by
  refine ⟨fun pinsY sY σY HY Q IY h => ?_⟩
  obtain ⟨hs, hco, E, hE, hT0⟩ := h
  have nm := (pe_var (X := (cxOf CXh X.prog X.w X.K X.mg X.base Nh qh sh g cdh X.A X.stack s H Eh).tr pn xe) (pos := p1) (i := i) hN hv hd hcd).run pinsY sY σY HY (fun v H1 => v = .ref f ∧ H1 = HY) IY ⟨.ref f, hs, rfl, rfl⟩
  refine wpAny_Call_Name_kw (thn nm fun u s1 ⟨v, H1, J1, r1, q1⟩ => ?_)
  obtain ⟨rfl, rfl⟩ := q1
  obtain rfl : u = Value.ref f := r1
  have of2 : s1.heap.get? f = some (PySem.W.kla_obj "<lambda>" (X.env.qual ++ "<lambda>") pa bd sc (cloFrom X.env.cells sc.names []) pm c' ctv) := J1.base.keep f _ hf nf ff (fun z => nomatch (show f ∈ ([] : List Addr) from z))
  have un : Un (frs X.stack) [] H H1 s.heap s1.heap := J1.base
  obtain ⟨⟨oc, vs, t, g1, g2, g3⟩, _, _⟩ := J1.hok c' _ hco
  refine PySem.W.callWith_F0 ⟨_, _, _, _, of2⟩ ?_
  have run0 : codeAny (model X.prog X.w) (X.A.deeper (envOfC qh sh s.heap.objs.size g cdh)) (.call (.ref f) ⟨[], []⟩) (CR (L2.CX X.prog X.w) (envOfC qh sh s.heap.objs.size g cdh :: X.stack) X.prog X.w H1 s1 Q E) s1 := by
    refine PySem.W.kla_callFunE hr.depth of2 rfl L.co L.gen rfl ⟨c', oc, vs, t, rfl, g1, g2, g3⟩ ?_
    rw [hb]
    refine wpAny_pure (wpAny_newFunctionEnv (fun y hy0 => (L.own y hy0).2) (fun y hy0 => absurd hy0 (by simp)) (fun h2 hnt hsc => ⟨J1.nolimit.fresh _ hsc, ?_⟩) L.kind)
    show codeAny _ _ (.expr bd (lamEnv X sc s1.heap.objs.size f c')) _ _
    have J : Inv (lamCx X (X.A.deeper (envOfC qh sh s.heap.objs.size g cdh)) (envOfC qh sh s.heap.objs.size g cdh :: X.stack) s1 H1 E sc f c') [] σ H1 { s1 with heap := h2, toks := s1.toks + ([] : List (Str × Value)).length } :=
      lam_start2 I L J1.env0 hr.hd un hnt fun b o e => hsc.extBut b o (Nat.ne_of_lt (Heap.lt_size e)) (Heap.get?_push_of_some _ e)
    refine PySem.W.kla_codeExpr (wpAny_mono ((hbd E _ _ s1 H1 (hr.deeper _)).run [] _ _ H1 Q J hT0) (fun v s' gq => ?_) fun e s' gq => gq)
    obtain ⟨w', H', J', rv, q⟩ := gq
    exact ⟨w', H', J'.os, J'.bare, J'.base, J'.hok, rv, q⟩
  refine wpAny_call (codeAny_mono run0 fun r s' gq => ?_)
  cases r with
  | error e => exact tk e s' (XE.of_call J1 hE gq)
  | ok fl =>
    cases fl with
    | ret u => exact J1.after gq
    | next => exact gq.elim
    | brk => exact gq.elim
    | cont => exact gq.elim
/-- what a def makes of a thing to be called: ty0 tells the thing's way, TT the def's -/
def GivesE (X : Cx) (Nh : List Str) (x : Str) (sh : Scope) (g : Addr) (cdh : Value) (bg : List Stmt) (a : Str) (q : Str) (TT : (XK → Hp → VK → Prop) → Hp → VK → Prop) : Prop :=
  ∀ (f c' : Addr) (s : Shared) (H : Hp) (Q : VK) (ty0 : XK → Hp → VK → Prop),
    (∀ (W : WX) (pn : List (Addr × Obj)) (xe : Value → Shared → Prop) (p1 p2 : Pos), Takes ((cxOf C8.CX0 X.prog X.w X.K X.mg X.base Nh x sh g cdh X.A X.stack s H C8.E0).tr pn xe) W →
      PE ((cxOf C8.CX0 X.prog X.w X.K X.mg X.base Nh x sh g cdh X.A X.stack s H C8.E0).tr pn xe) (.Call (.Name a p1) [] [] p2) (fun σY HY Q => σY[0]? = some (some (.ref f)) ∧ HY c' = some (CodeO c' q) ∧ ∃ E : XK, (∀ cls d H', E cls d H' → W cls d σY H') ∧ ty0 E HY Q)) →
    Room 1 (X.A.deeper (envOfC x sh s.heap.objs.size g cdh)) → H c' = some (CodeO c' q) → TT ty0 H Q →
    ∃ t, PSs (cxOf C8.CX0 X.prog X.w X.K X.mg X.base Nh x sh g cdh X.A X.stack s H C8.E0).nox bg t ∧ t { nx := fun _ H' => Q .non H', rt := Q } (L2.start Nh [.ref f]) H
def tLamE (T : List (Addr × Str)) (TT : (XK → Hp → VK → Prop) → Hp → VK → Prop) (t : XK → TE) : TE := fun σ H Q => Tabs T H ∧ ∀ H1, ExtT H H1 → Tabs T H1 → TT (fun E H' Q' => t E σ H' Q') H1 Q
end
theorem pe_lamE {X : Cx} {T : List (Addr × Str)} {TT : (XK → Hp → VK → Prop) → Hp → VK → Prop} {x a : Str} {g c P : Addr} {k : Nat} {pg : Arguments} {bg : List Stmt} {sh : Scope} {dV kV doc pm cdv ct oc : Value} {an od : Option Addr} {osl : Array (Option Value)} {Nh : List Str}
    {pa : Arguments} {bd : Expr} {sc : Scope} {t : XK → TE} {p lp pos : Pos} (hg : Gl X x) (hm : X.mg x = some (.ref g)) (hk : PySem.W.keepIn X.K (.ref g) = true)
    (lk : X.K.lookup g = some ⟨oc, od, .func (PySem.W.fnOf x x pg bg sh dV kV doc pm an cdv ct), osl⟩) (cg : PySem.W.codeIn X.K cdv x = true) (hb : L2.Binds X.K (PySem.W.fnOf x x pg bg sh dV kV doc pm an cdv ct) [a] []) (Sg : FnScope Nh [a] sh) (n0 : Nh[0]? = some a) (va : Vis sh a)
    (hG : GivesE X Nh x sh g cdv bg a (X.env.qual ++ "<lambda>") TT) (B : TabB X.base X.mg c P) (hc : X.env.code = .ref c) (mT : (P, X.env.qual ++ "<lambda>") ∈ T) (uT : ∀ p ∈ T, p.1 = P → p.2 = X.env.qual ++ "<lambda>") (hr : Room (k + 2) X.A)
    (L : LamS X.env.scope sc) (nd : defaultsOf pa X.env = ([], [])) (bi : ∀ (q : Str) (cl : List (Str × Addr)) (pm cv ctv : Value), bindArgs (PySem.W.kla_fn "<lambda>" q pa bd sc cl pm cv ctv) ⟨[], []⟩ = pure [])
    (hbd : ∀ (A : Around) (outer : List PySem.Env) (s : Shared) (H : Hp) (E : XK) (f c' : Addr), Room k (A.deeper (lamEnv X sc s.heap.objs.size f c')) → PE (lamCx X A outer s H E sc f c') bd (t E))
    (hdb : (x == ("__debug__" : Str)) = false := by decide) (hd : (a == ("__debug__" : Str)) = false := by decide) (hcd : (a == ("__classdict__" : Str)) = false := by decide) : PE X (.Call (.Name x p) [.Lambda pa bd sc lp] [] pos) (tLamE T TT t) := by
  refine ⟨fun pz s σ H Q I h => ?_⟩
  obtain ⟨tT, h⟩ := h
  refine wpAny_Call_Name_kw (ld_glob I hg hm ?_ hdb)
  refine PySem.W.callWith_K (h₀ := X.base) I.ok.mod.kin hk ?_ (by rfl) (by rfl)
  show wpAny _ _ (spliced ((false, eval (.Lambda pa bd sc lp) X.env) :: backTo pos (starEach [] X.env))) _ _ s
  refine Calls.spliced_cons (lam_make3 I B hc mT uT tT nd (L.has I.ok) fun f c' pm' ctv H1 s1 J1 xT T1 hf nf ff co => ?_)
  refine Calls.spliced_nil ⟨J1.kIn, ?_⟩
  have run0 : codeAny (model X.prog X.w) X.A (.call (.ref g) ⟨[.ref f], []⟩) (CR C8.CX0 X.stack X.prog X.w H1 s1 Q C8.E0) s1 := by
    refine run_ofS (N := Nh) (ps := [a]) (us := [.ref f]) (vs := [.ref f]) lk cg Sg hr J1.env0 (hb s1 [.ref f] J1.kIn rfl) (.cons rfl .nil) rfl fun hr' => ?_
    obtain ⟨t2, ht2, hq2⟩ := hG f c' s1 H1 Q (fun E H' Q' => t E σ H' Q') (fun W pn xe p1 p2 tk => act2 (i := 0) J1 L hf nf ff (bi _ _ _ _ _) tk hr' (fun E A outer s H hr2 => hbd A outer s H E f c' hr2) n0 va hd hcd) (hr'.mono (Nat.le_add_left 1 k)) co (h H1 xT T1)
    exact ⟨t2, ht2.nox, hq2⟩
  refine wpAny_call (codeAny_mono run0 fun r s2 gq => ?_)
  cases r with
  | error e => exact (show False from gq).elim
  | ok fl =>
    cases fl with
    | ret u => exact J1.after gq
    | next => exact gq.elim
    | brk => exact gq.elim
    | cont => exact gq.elim
end DV

set_option Elab.async false
set_option linter.all false
set_option maxRecDepth 100000
/-! DV11: lambdas handed over, over plain data. -/
namespace DV
open PySem PySem.Spec PyProof.Rows L2
section
variable {S : Ent} {Z : Zs} {env : Env} {σ : L2.St} {H : Hp}
/-- what must stay hidden -/
def Must (S : Ent) (Z : Zs) (env : Env) (σ : L2.St) (b : Addr) : Prop := b ∈ S.Z.O ∨ b ∈ Z.B ∨ Z.h = some b ∨ ¬ NotOwned env σ b
noncomputable def trimO (S : Ent) (Z : Zs) (env : Env) (σ : L2.St) : List Addr := Z.O.filter fun b => @decide (Must S Z env σ b) (Classical.propDecidable _)
theorem mem_trim {b : Addr} : b ∈ trimO S Z env σ ↔ b ∈ Z.O ∧ Must S Z env σ b := by
  unfold trimO
  rw [List.mem_filter, @decide_eq_true_iff (Must S Z env σ b) (Classical.propDecidable _)]
/-- what nothing owns any more is shown -/
theorem Rel.trim (R : Rel S Z env σ H) : Rel S ⟨trimO S Z env σ, Z.h, Z.B⟩ env σ H ∧ Tr Z H ⟨trimO S Z env σ, Z.h, Z.B⟩ H := by
  have v : Vle Z H ⟨trimO S Z env σ, Z.h, Z.B⟩ H := ⟨fun b u q => by
    obtain ⟨h1, h2⟩ := vis_some q
    exact vis_out (fun z => h1 (mem_trim.mp z).1) h2 (vis_nt q), fun _ h => h⟩
  refine ⟨⟨fun a ha => R.oin a (mem_trim.mp ha).1, fun a ha => mem_trim.mpr ⟨R.sub a ha, .inl ha⟩, fun a ha => ?_, R.hsub, R.frame, R.ehnd, R.nhnd, R.len, fun i x e => ?_, R.inj, fun a ha => ?_, R.tabs, fun a ha => R.osb a (mem_trim.mp ha).1⟩,
    ⟨fun _ _ q _ => .of q, fun b hb => .inl (mem_trim.mp hb).1, fun _ h => h, fun _ h => .inl h, rfl⟩⟩
  · exact (R.hnd a ha).mono (mem_trim.mpr ⟨R.hin a ha, .inr (.inr (.inl ha))⟩) (fun c n _ z => n (mem_trim.mp z).1) fun _ _ q _ => q
  · exact (R.slots i x e).mono v fun a ho es h1 _ h2 => ⟨mem_trim.mpr ⟨h1, .inr (.inr (.inr fun n => n i x e ho es))⟩, h2, fun _ q _ => q⟩
  · have q := R.res a ha
    exact ⟨mem_trim.mpr ⟨q.ino, .inr (.inl ha)⟩, q.nh, q.ne, q.no⟩
/-- the slots' relation where more is hidden: another def's own lists -/
theorem Rel.under (R : Rel S Z env σ H) {O2 : List Addr} {H' : Hp} (hO : ∀ a ∈ Z.O, a ∈ O2) (hN : ∀ a ∈ O2, a ∈ Z.O ∨ H a = none) (oin : ∀ a ∈ O2, H' a ≠ none) (kp : ∀ b o, H b = some o → Z.h ≠ some b → Ex1 H' b o) (hd : ∀ a, Z.h = some a → HandOk O2 H' a) (tt : LamX.Tabs S.G.T H') :
    Rel S ⟨O2, Z.h, O2.filter (fun b => decide (b ∉ Z.O)) ++ Z.B⟩ env σ H' := by
  have v : Vle Z H ⟨O2, Z.h, O2.filter (fun b => decide (b ∉ Z.O)) ++ Z.B⟩ H' := ⟨fun b o e => by
    obtain ⟨h1, h2⟩ := vis_some e
    have n := vis_nt e
    refine vis_out (fun z => ?_) ((kp b o h2 fun z => h1 (R.hin b z)).get n) n
    rcases hN b z with q | q
    · exact h1 q
    · exact absurd q (by rw [h2]; simp), fun _ h => h⟩
  refine ⟨oin, fun a ha => hO a (R.sub a ha), hd, R.hsub, fun b o e n => ?_, R.ehnd, R.nhnd, R.len, fun i x e => ?_, R.inj, fun a ha => ?_, tt, fun a ha => ?_⟩
  · refine (R.frame b o e n).trans fun o' e' => kp b o' e' fun z => ?_
    rcases R.nhnd b z with q | q
    · exact n q
    · rw [e] at q; cases q
  · exact (R.slots i x e).mono v fun a _ _ h1 _ h2 => ⟨hO a h1, h2, fun o q n => (kp a o q h2).get n⟩
  · rcases List.mem_append.mp ha with h | h
    · rw [List.mem_filter, decide_eq_true_iff] at h
      have n1 : H a = none := (hN a h.1).resolve_left h.2
      refine ⟨h.1, fun z => h.2 (R.hin a z), R.fresh0 n1, fun j x e o s => ?_⟩
      obtain ⟨b, es, q, _⟩ := (R.slots j x e).to_own o
      rw [s] at es; cases es
      exact h.2 q
    · have q := R.res a h
      exact ⟨hO a q.ino, q.nh, q.ne, q.no⟩
  · rcases hN a ha with q | q
    · exact R.osb a q
    · exact .inr (R.fresh0 q)
end
/-! ### the way of a thing that is called -/
abbrev Tl := (D → Prop) → (Er → Prop) → Prop
abbrev Fl := Tl → (D → Prop) → Prop
def Kp (h : Option Addr) (H H' : Hp) : Prop := ∀ b o, H b = some o → h ≠ some b → Ex1 H' b o
def Hd (O : List Addr) (h : Option Addr) (H : Hp) : Prop := ∀ a, h = some a → HandOk O H a
/-- the heap's reading of a def that calls what it is given -/
def TTd (G : Pg) (F : Fl) : (XK → Hp → VK → Prop) → Hp → VK → Prop := fun tl H Q => ∃ (Z : Zs) (tD : Tl) (Qd : D → Prop), (∀ a ∈ Z.O, H a ≠ none) ∧ Hd Z.O Z.h H ∧ LamX.Tabs G.T H ∧ F tD Qd ∧
  (∀ d v H', Kp Z.h H H' → Hd Z.O Z.h H' → LamX.Tabs G.T H' → RS G Z H' v d → Qd d → Q v H') ∧
  ∀ (O2 : List Addr) (H' : Hp) (Qd' : D → Prop) (Ed' : Er → Prop) (Q' : VK) (E' : XK), (∀ a ∈ Z.O, a ∈ O2) → (∀ a ∈ O2, a ∈ Z.O ∨ H a = none) → (∀ a ∈ O2, H' a ≠ none) → Kp Z.h H H' → Hd O2 Z.h H' → LamX.Tabs G.T H' → tD Qd' Ed' →
    (∀ d v H'', Kp Z.h H' H'' → Hd O2 Z.h H'' → LamX.Tabs G.T H'' → Rep G (vis O2 H'') Z.h v d → Qd' d → Q' v H'') →
    (∀ er cls dd H'', Kp Z.h H' H'' → Hd O2 Z.h H'' → LamX.Tabs G.T H'' → ErrOk G ⟨O2, Z.h, []⟩ H'' cls dd er → Ed' er → E' cls dd H'') → tl E' H' Q'
/-- f(lambda: e) -/
def wLam (F : Fl) (Tb : Tm) : Tm := fun env Q _ => F (fun Q' E' => Tb env (fun d e => e = env ∧ Q' d) (fun er e => e = env ∧ E' er)) (fun d => Q d env)
/-- y(), y the def's own first name -/
def wAct (f : Addr) (tD : Tl) : Tm := fun env Q E => env[0]? = some (.pin f none []) ∧ tD (fun d => Q d env) (fun er => E er env)
/-- what such a def's body is worth -/
def wFl (n : Nat) (B : Addr → Tl → Ts) : Fl := fun tD Q => ∀ f, B f tD (.pin f none [] :: List.replicate (n - 1) .no) { nx := fun _ => Q .non, rt := fun d _ => Q d, bk := fun _ => False, ct := fun _ => False, ex := fun _ _ => False }
theorem takes_lam {X : Cx} {A : Around} {outer : List PySem.Env} {s0 : Shared} {H0 : Hp} {E : XK} {sc : Scope} {f c' : Addr} : Takes (LamX.lamCx X A outer s0 H0 E sc f c') (fun cls d _ H => E cls d H) := takes_of rfl rfl rfl rfl
theorem dx_lam {S : Ent} {X : Cx} {F : Fl} {Tb : Tm} {x a : Str} {g c P : Addr} {k : Nat} {pg : Arguments} {bg : List Stmt} {sg : Scope} {dV kV doc pm cdv ct oc : Value} {an od : Option Addr} {osl : Array (Option Value)} {Ng : List Str} {pa : Arguments} {bd : Expr} {sc : Scope} {p lp pos : Pos} (hm : X.mg x = some (.ref g)) (hk : PySem.W.keepIn X.K (.ref g) = true)
    (lk : X.K.lookup g = some ⟨oc, od, .func (PySem.W.fnOf x x pg bg sg dV kV doc pm an cdv ct), osl⟩) (cg : PySem.W.codeIn X.K cdv x = true) (hb : L2.Binds X.K (PySem.W.fnOf x x pg bg sg dV kV doc pm an cdv ct) [a] []) (Sg : FnScope Ng [a] sg)
    (hG : GivesE X Ng x sg g cdv bg a (X.env.qual ++ "<lambda>") (TTd S.G F)) (B : LamX.TabB X.base X.mg c P) (hc : X.env.code = .ref c) (mT : (P, X.env.qual ++ "<lambda>") ∈ S.G.T) (uT : ∀ p ∈ S.G.T, p.1 = P → p.2 = X.env.qual ++ "<lambda>") (hr : Room (k + 2) X.A)
    (L : LamX.LamS X.env.scope sc) (hbd : ∀ (A : Around) (outer : List PySem.Env) (s0 : Shared) (H0 : Hp) (E : XK) (f c' : Addr), Room k (A.deeper (LamX.lamEnv X sc s0.heap.objs.size f c')) → DE S (LamX.lamCx X A outer s0 H0 E sc f c') bd Tb)
    (hg : Gl X x := by rfl) (n0 : Ng[0]? = some a := by rfl) (va : Vis sg a := by first | exact Or.inl rfl | exact Or.inr (Or.inl rfl) | exact Or.inr (Or.inr rfl)) (nd : defaultsOf pa X.env = ([], []) := by rfl)
    (bi : ∀ (q : Str) (cl : List (Str × Addr)) (pm cv ctv : Value), bindArgs (PySem.W.kla_fn "<lambda>" q pa bd sc cl pm cv ctv) ⟨[], []⟩ = pure [] := by intros; rfl)
    (hdb : (x == ("__debug__" : Str)) = false := by decide) (hd : (a == ("__debug__" : Str)) = false := by decide) (hcd : (a == ("__classdict__" : Str)) = false := by decide) : DE S X (.Call (.Name x p) [.Lambda pa bd sc lp] [] pos) (wLam F Tb) := ⟨fun W tk => by
  let t : XK → TE := fun E σ H Q => ∀ A outer s0 H0 f c' (hr : Room k (A.deeper (LamX.lamEnv X sc s0.heap.objs.size f c'))), Classical.choose ((hbd A outer s0 H0 E f c' hr).run _ takes_lam) σ H Q
  have pb : ∀ (A : Around) (outer : List PySem.Env) (s0 : Shared) (H0 : Hp) (E : XK) (f c' : Addr), Room k (A.deeper (LamX.lamEnv X sc s0.heap.objs.size f c')) → PE (LamX.lamCx X A outer s0 H0 E sc f c') bd (t E) := fun A outer s0 H0 E f c' hr =>
    ⟨fun pins s σ H Q I h => (Classical.choose_spec ((hbd A outer s0 H0 E f c' hr).run _ takes_lam)).1.run pins s σ H Q I (h A outer s0 H0 f c' hr)⟩
  refine ⟨_, pe_lamE (T := S.G.T) hg hm hk lk cg hb Sg n0 va hG B hc mT uT hr L nd bi pb hdb hd hcd, fun Z env σ H Q E Q' R hT k x => ⟨R.tabs, fun H1 xt t1 => ?_⟩⟩
  have kp1 : Kp Z.h H H1 := fun b o e _ => by
    by_cases n : NT o
    · exact .of (xt.1 b o e n)
    · have : ∃ ps, o = .tbl ps := Classical.not_forall_not.mp fun z => n z
      obtain ⟨ps, rfl⟩ := this
      obtain ⟨ps', e'⟩ := xt.2 b ps e
      exact ⟨_, e', fun n => absurd rfl (n ps)⟩
  have hd1 : Hd Z.O Z.h H1 := fun a ha => by
    obtain ⟨i1, c, cells, q, bg, st, cnt, e1, nc, e2, r⟩ := R.hnd a ha
    exact ⟨i1, c, cells, q, bg, st, cnt, xt.1 _ _ e1 (fun _ z => by cases z), nc, xt.1 _ _ e2 (fun _ z => by cases z), r⟩
  have R1 := R.step kp1 hd1 t1
  have tr1 : Tr Z H Z H1 := ⟨kp1, fun _ h => .inl h, fun _ h => h, fun _ h => .inl h, rfl⟩
  obtain ⟨Rt, trt⟩ := R1.trim
  have tr2 := Tr.trans R1 tr1 trt
  refine ⟨⟨trimO S Z env σ, Z.h, Z.B⟩, _, _, Rt.oin, Rt.hnd, Rt.tabs, hT, fun d v H' kp hd tt r q => ?_, fun O2 H' Qd' Ed' Q2 E2 s1 s2 s3 s4 s5 s6 hq k1 k2 => ?_⟩
  · exact k _ env v d H' (Rt.step kp hd tt) (Tr.trans Rt tr2 ⟨kp, fun _ h => .inl h, fun _ h => h, fun _ h => .inl h, rfl⟩) r q
  · intro A outer s0 H0 f c' hr'
    have Ru := Rt.under s1 s2 s3 s4 s5 s6
    have big : ∀ {Z3 : Zs} {H3 : Hp}, Rel S Z3 env σ H3 → Z3.B = O2.filter (fun b => decide (b ∉ trimO S Z env σ)) ++ Z.B → ∀ b ∈ O2, b ∈ Z3.O := fun {Z3 H3} R3 eB b hb => by
      by_cases hz : b ∈ trimO S Z env σ
      · rcases (mem_trim.mp hz).2 with q | q | q | q
        · exact R3.sub b q
        · exact (R3.res b (by rw [eB]; exact List.mem_append_right _ q)).ino
        · exact R3.hin b (by rw [R3.hsub, ← R.hsub]; exact q)
        · apply Classical.byContradiction
          intro nb
          exact q fun j y e o s => by
            obtain ⟨b', es, q', _⟩ := (R3.slots j y e).to_own o
            rw [s] at es; cases es
            exact nb q'
      · exact (R3.res b (by rw [eB]; exact List.mem_append_left _ (List.mem_filter.mpr ⟨hb, decide_eq_true hz⟩))).ino
    have hdO : ∀ {Z3 : Zs} {H3 : Hp}, Rel S Z3 env σ H3 → Z3.B = O2.filter (fun b => decide (b ∉ trimO S Z env σ)) ++ Z.B → Hd O2 Z.h H3 := fun {Z3 H3} R3 eB a ha => by
      have hh : Z3.h = some a := by rw [R3.hsub, ← R.hsub]; exact ha
      have i1 : a ∈ O2 := s1 a (mem_trim.mpr ⟨R.hin a ha, .inr (.inr (.inl ha))⟩)
      exact (R3.hnd a hh).mono i1 (fun c nc _ z => nc (big R3 eB c z)) fun _ _ q _ => q
    have same : ∀ {Z3 : Zs} {H3 : Hp}, Rel S Z3 env σ H3 → Z3.B = O2.filter (fun b => decide (b ∉ trimO S Z env σ)) ++ Z.B → Same (vis Z3.O H3) (vis O2 H3) := fun {Z3 H3} R3 eB b o e => by
      obtain ⟨h1, h2⟩ := vis_some e
      exact vis_out (fun z => h1 (big R3 eB b z)) h2 (vis_nt e)
    refine (Classical.choose_spec ((hbd A outer s0 H0 E2 f c' hr').run _ takes_lam)).2 _ env σ H' _ _ _ Ru hq (fun Z3 env3 v d H3 R3 t3 r3 h3 => ?_) fun Z3 env3 cls dd er H3 R3 v3 eo h3 => ?_
    · obtain ⟨rfl, h3⟩ := h3
      exact k1 d v H3 t3.keep (hdO R3 t3.bb) R3.tabs (r3.mono (same R3 t3.bb) fun a ha => by rw [R3.hsub, ← R.hsub] at ha; exact ha) h3
    · obtain ⟨rfl, h3⟩ := h3
      obtain ⟨C, g1, g2, g3⟩ := eo
      exact k2 er cls dd H3 v3.keep (hdO R3 v3.bb) R3.tabs ⟨C, g1, g2, g3.mono (same R3 v3.bb) fun a ha => by rw [R3.hsub, ← R.hsub] at ha; exact ha⟩ h3⟩
theorem start_one {N : List Str} {v : V} (h : 1 ≤ N.length) : (L2.start N []).set 0 (some v) = L2.start N [v] := by
  unfold L2.start
  obtain ⟨n, e⟩ : ∃ n, N.length = n + 1 := ⟨N.length - 1, by omega⟩
  simp [e, List.replicate_succ]
theorem code_nt {c : Addr} {q : Str} : NT (LamX.CodeO c q) := fun ps z => by
  unfold LamX.CodeO at z
  cases z
theorem gives_of {X : Cx} {G : Pg} {Ng : List Str} {x a q : Str} {sg : Scope} {g : Addr} {cdg : Value} {bg : List Stmt} {B : Addr → Tl → Ts} (hn : 1 ≤ Ng.length)
    (hbody : ∀ (S2 : Ent) (tD : Tl) (f : Addr) (s : Shared) (H : Hp), Room 1 (X.A.deeper (envOfC x sg s.heap.objs.size g cdg)) → S2.G = G → (∀ pn xe p1 p2, DE S2 ((cxOf C8.CX0 X.prog X.w X.K X.mg X.base Ng x sg g cdg X.A X.stack s H C8.E0).tr pn xe) (.Call (.Name a p1) [] [] p2) (wAct f tD)) →
      DSs S2 (cxOf C8.CX0 X.prog X.w X.K X.mg X.base Ng x sg g cdg X.A X.stack s H C8.E0).nox bg (B f tD)) : GivesE X Ng x sg g cdg bg a q (TTd G (wFl Ng.length B)) := by
  intro f c' s H Q tl act hro hco hTT
  obtain ⟨Z, tD, Qd, oin, hd, tt, hF, kfin, kcall⟩ := hTT
  have R0 : Rel ⟨G, Z, H⟩ ⟨Z.O, Z.h, []⟩ (List.replicate Ng.length .no) (L2.start Ng []) H := entry_rel (N := Ng) (vs := []) (ds := []) oin hd .nil rfl tt
  have R : Rel ⟨G, Z, H⟩ ⟨Z.O, Z.h, []⟩ (.pin f none [] :: List.replicate (Ng.length - 1) .no) (L2.start Ng [.ref f]) H := by
    have R1 := R0.putPin (i := 0) (a := f) (dd := none) (fs := []) rfl
    rw [start_one hn] at R1
    obtain ⟨n, e⟩ : ∃ n, Ng.length = n + 1 := ⟨Ng.length - 1, by omega⟩
    rw [e, List.replicate_succ, List.set_cons_zero] at R1
    rw [e]
    exact R1
  have hact : ∀ pn xe p1 p2, DE ⟨G, Z, H⟩ ((cxOf C8.CX0 X.prog X.w X.K X.mg X.base Ng x sg g cdg X.A X.stack s H C8.E0).tr pn xe) (.Call (.Name a p1) [] [] p2) (wAct f tD) := fun pn xe p1 p2 => ⟨fun W tk => by
    refine ⟨_, act W pn xe p1 p2 tk, fun Z2 env2 σ2 H2 Q2 E2 Q' R2 hT k x => ?_⟩
    obtain ⟨e0, ht⟩ := hT
    have hZ : Z2.h = Z.h := R2.hsub
    have hne : Z.h ≠ some c' := fun z => by
      obtain ⟨_, _, _, _, _, _, _, e1, _⟩ := hd c' z
      rw [hco] at e1
      unfold LamX.CodeO at e1
      cases e1
    refine ⟨(R2.slots 0 _ e0).1, (R2.frame c' _ hco hne).get code_nt, fun cls d H' => W cls d σ2 H', fun _ _ _ h => h, ?_⟩
    refine kcall Z2.O H2 _ _ _ _ R2.sub R2.osb R2.oin R2.frame (fun b hb => R2.hnd b (hZ.trans hb)) R2.tabs ht (fun d v H3 kp hd3 tt3 r q3 => ?_) fun er cls dd H3 kp hd3 tt3 eo q3 => ?_
    · have kp2 : ∀ b o, H2 b = some o → Z2.h ≠ some b → Ex1 H3 b o := fun b o e n => kp b o e (by rw [← hZ]; exact n)
      exact k Z2 env2 v d H3 (R2.step kp2 (fun b hb => hd3 b (hZ ▸ hb)) tt3) ⟨kp2, fun _ h => .inl h, fun _ h => h, fun _ h => .inl h, rfl⟩ (by show Rep G (vis Z2.O H3) Z2.h v d; rw [hZ]; exact r) q3
    · have kp2 : ∀ b o, H2 b = some o → Z2.h ≠ some b → Ex1 H3 b o := fun b o e n => kp b o e (by rw [← hZ]; exact n)
      obtain ⟨C, g1, g2, g3⟩ := eo
      exact x Z2 env2 cls dd er H3 (R2.step kp2 (fun b hb => hd3 b (hZ ▸ hb)) tt3) ⟨kp2, fun _ h => .inl h, fun _ h => h, fun _ h => .inl h, rfl⟩ ⟨C, g1, g2, by rw [hZ]; exact g3⟩ q3⟩
  obtain ⟨t, p, rd⟩ := (hbody ⟨G, Z, H⟩ tD f s H hro rfl hact).run (fun _ _ _ _ => False) LamX.takes0 PassesOwn.never
  refine ⟨t, p, rd _ _ _ H _ _ R (hF f) ⟨fun Z' e s' H' R' v h => ?_, fun Z' e s' v d H' R' vl rv h => ?_, fun _ _ _ _ _ _ h => h.elim, fun _ _ _ _ _ _ h => h.elim, fun _ _ _ _ _ _ _ _ _ _ h => h.elim, fun _ _ _ _ _ _ _ _ _ _ _ h => h.elim⟩⟩
  · exact kfin .non _ H' R'.frame (exit_hand R' fun b hb => (hd b hb).1) R'.tabs .non h
  · exact kfin d v H' R'.frame (exit_hand R' fun b hb => (hd b hb).1) R'.tabs (Rep.mono (exit_vle R') (fun b hb => R'.hsub.symm.trans hb) rv) h
end DV

set_option Elab.async false
set_option linter.all false
set_option maxRecDepth 100000
/-! DV12: errors' makers, defs that hold lambdas, defs that are handed lambdas. -/
namespace DV
open PySem PySem.Spec PyProof.Rows L2
/-- a def whose code object stands at c -/
structure FunC (K : PySem.W.Frag) (x qual : Str) (st : Stmt) (f : Addr) (fd : FuncData) (c : Addr) : Prop where
  ex : ∃ (oc : Value) (od : Option Addr) (kV doc pm : Value) (an : Option Addr) (ct : Value) (osl : Array (Option Value)),
    fd = PySem.W.fnOf x qual (defArgs st) (defBody st) (defScope st) .none kV doc pm an (.ref c) ct ∧ K.lookup f = some ⟨oc, od, .func fd, osl⟩ ∧ PySem.W.codeIn K (.ref c) qual = true
theorem fn_okC {P : Program} {w : World} {G : Pg} {mg : Str → Option Value} {base : Heap} {x qual : Str} {st : Stmt} {f c : Addr} {fd : FuncData} {N ps : List Str} {k n : Nat} {B : Ts} (F : FunC G.K x qual st f fd c) (Sc : FnScope N ps (defScope st)) (hn : n = ps.length)
    (hbody : ∀ (A : Around) (outer : List PySem.Env) (s : Shared) (H : Hp) (E : XK) (S : Ent), S.G = G → Room k (A.deeper (envOfC qual (defScope st) s.heap.objs.size f (.ref c))) →
      DSs S (cxOf (L2.CX P w) P w G.K mg base N qual (defScope st) f (.ref c) A outer s H E) (defBody st) B) : FnOk P w G.K mg base (L2.CX P w) (k + 1) f fd ps (spD G n (wFn N.length B)) := by
  obtain ⟨oc, od, kV, doc, pm, an, ct, osl, rfl, lk, hcd⟩ := F.ex
  refine fn_of lk hcd Sc (fun vs H Q E h => ?_) fun A outer s H vs Q E hr h => ?_
  · obtain ⟨_, _, _, _, hl, _⟩ := h
    rw [hl, hn]
  · obtain ⟨Z, ds, Qd, Ed, hl, hl2, oin, hh, r, tt, hT, kq, ke⟩ := h
    have R := entry_rel (N := N) oin hh r (hl.trans hl2.symm) tt
    obtain ⟨t, p, q⟩ := (hbody A outer s H E ⟨G, Z, H⟩ rfl hr).run (fun cls d _ H => E cls d H) (takes_of rfl rfl rfl rfl) PassesOwn.leaving
    have hin : ∀ a, Z.h = some a → a ∈ Z.O := fun a ha => (hh a ha).1
    refine ⟨t, p, q _ _ _ H _ _ R hT ⟨fun Z' e s H' R' v h => ?_, fun Z' e s v d H' R' vl rv h => ?_, fun _ _ _ _ _ _ h => h.elim, fun _ _ _ _ _ _ h => h.elim, fun σ' Z' e cls dd er H' R' vl eo h => ?_, fun _ _ _ _ _ _ _ _ _ _ _ h => h.elim⟩⟩
    · exact kq _ _ H' R'.frame (exit_hand R' hin) R'.tabs .non h
    · refine kq d v H' R'.frame (exit_hand R' hin) R'.tabs ?_ h
      exact Rep.mono (exit_vle R') (fun a ha => R'.hsub.symm.trans ha) rv
    · refine ke er cls dd H' R'.frame (exit_hand R' hin) R'.tabs ?_ h
      obtain ⟨C, e1, e2, e3⟩ := eo
      exact ⟨C, e1, e2, e3.mono (exit_vle R') fun a ha => R'.hsub.symm.trans ha⟩
/-! ### a def that is handed a lambda -/
structure LamF (P : Program) (w : World) (G : Pg) (mg : Str → Option Value) (base : Heap) (x : Str) (F : Fl) : Prop where
  ex : ∃ (g : Addr) (a : Str) (pg : Arguments) (bg : List Stmt) (sg : Scope) (dV kV doc pm cdv ct oc : Value) (an od : Option Addr) (osl : Array (Option Value)) (Ng : List Str), mg x = some (.ref g) ∧ PySem.W.keepIn G.K (.ref g) = true ∧
    G.K.lookup g = some ⟨oc, od, .func (PySem.W.fnOf x x pg bg sg dV kV doc pm an cdv ct), osl⟩ ∧ PySem.W.codeIn G.K cdv x = true ∧ L2.Binds G.K (PySem.W.fnOf x x pg bg sg dV kV doc pm an cdv ct) [a] [] ∧ FnScope Ng [a] sg ∧ Ng[0]? = some a ∧ Vis sg a ∧
    (a == ("__debug__" : Str)) = false ∧ (a == ("__classdict__" : Str)) = false ∧
    ∀ (X : Cx) (q : Str), X.prog = P → X.w = w → X.K = G.K → X.mg = mg → X.base = base → GivesE X Ng x sg g cdv bg a q (TTd G F)
theorem dx_lamF {S : Ent} {X : Cx} {F : Fl} {Tb : Tm} {x : Str} {c P : Addr} {k : Nat} {pa : Arguments} {bd : Expr} {sc : Scope} {p lp pos : Pos} (LF : LamF X.prog X.w S.G X.mg X.base x F) (hK : X.K = S.G.K) (B : LamX.TabB X.base X.mg c P) (hc : X.env.code = .ref c)
    (mT : (P, X.env.qual ++ "<lambda>") ∈ S.G.T) (uT : ∀ p ∈ S.G.T, p.1 = P → p.2 = X.env.qual ++ "<lambda>") (hr : Room (k + 2) X.A) (L : LamX.LamS X.env.scope sc)
    (hbd : ∀ (A : Around) (outer : List PySem.Env) (s0 : Shared) (H0 : Hp) (E : XK) (f c' : Addr), Room k (A.deeper (LamX.lamEnv X sc s0.heap.objs.size f c')) → DE S (LamX.lamCx X A outer s0 H0 E sc f c') bd Tb)
    (hg : Gl X x := by rfl) (nd : defaultsOf pa X.env = ([], []) := by rfl) (bi : ∀ (q : Str) (cl : List (Str × Addr)) (pm cv ctv : Value), bindArgs (PySem.W.kla_fn "<lambda>" q pa bd sc cl pm cv ctv) ⟨[], []⟩ = pure [] := by intros; rfl)
    (hdb : (x == ("__debug__" : Str)) = false := by decide) : DE S X (.Call (.Name x p) [.Lambda pa bd sc lp] [] pos) (wLam F Tb) := by
  obtain ⟨g, a, pg, bg, sg, dV, kV, doc, pm, cdv, ct, oc, an, od, osl, Ng, h1, h2, h3, h4, h5, h6, h7, h8, h9, h10, h11⟩ := LF.ex
  rw [← hK] at h2 h3 h4 h5
  exact dx_lam h1 h2 h3 h4 h5 h6 (h11 X _ rfl rfl hK rfl rfl) B hc mT uT hr L hbd hg h7 h8 nd bi hdb h9 h10
theorem lamF_of {P : Program} {w : World} {G : Pg} {mg : Str → Option Value} {base : Heap} {x a : Str} {st : Stmt} {g : Addr} {fd : FuncData} {N : List Str} {B : Addr → Tl → Ts} (F : Fun G.K x x st g fd) (Sc : FnScope N [a] (defScope st)) (hn : 1 ≤ N.length) (hm : mg x = some (.ref g)) (hb : L2.Binds G.K fd [a] [])
    (hbody : ∀ (A : Around) (stk : List PySem.Env) (cdv : Value) (S2 : Ent) (tD : Tl) (f : Addr) (s : Shared) (H : Hp), Room 1 (A.deeper (envOfC x (defScope st) s.heap.objs.size g cdv)) → S2.G = G → (∀ pn xe p1 p2, DE S2 ((cxOf C8.CX0 P w G.K mg base N x (defScope st) g cdv A stk s H C8.E0).tr pn xe) (.Call (.Name a p1) [] [] p2) (wAct f tD)) →
      DSs S2 (cxOf C8.CX0 P w G.K mg base N x (defScope st) g cdv A stk s H C8.E0).nox (defBody st) (B f tD))
    (h7 : N[0]? = some a := by rfl) (h8 : Vis (defScope st) a := by first | exact Or.inl rfl | exact Or.inr (Or.inl rfl) | exact Or.inr (Or.inr rfl)) (h9 : (a == ("__debug__" : Str)) = false := by decide) (h10 : (a == ("__classdict__" : Str)) = false := by decide) : LamF P w G mg base x (wFl N.length B) := by
  obtain ⟨oc, od, kV, doc, pm, an, cdv, ct, osl, rfl, lk, hcd⟩ := F.ex
  refine ⟨g, a, defArgs st, defBody st, defScope st, .none, kV, doc, pm, cdv, ct, oc, an, od, osl, N, hm, F.kp, lk, hcd, hb, Sc, h7, h8, h9, h10, fun X q e1 e2 e3 e4 e5 => ?_⟩
  refine gives_of hn fun S2 tD f s H hro eG act => ?_
  subst e1 e2 e4 e5
  rw [e3] at act ⊢
  exact hbody X.A X.stack cdv S2 tD f s H hro eG act
/-! ### the end, with the tables of all defs -/
/-- the table of the def that the name x holds is empty -/
def TabOf (K : PySem.W.Frag) (mg : Str → Option Value) (x : Str) (h : Heap) : Prop := ∀ (fa c P : Addr) (o : Obj) (fd : FuncData) (e : Value) (dd : Option Addr) (vs : Array Value) (sl : Array (Option Value)), mg x = some (.ref fa) → K.lookup fa = some o → o.data = .func fd → fd.code = .ref c →
  K.lookup c = some ⟨e, dd, .fields vs, sl⟩ → vs[11]? = some (.ref P) → h.get? P = some { cls := .none, data := .fields #[] }
theorem walk_tabs {l : PySem.W.OpenLaw} {n k : Nat} {q : Program} {loose : List Str} {XP : (Str → Option Value) → Heap → Prop} {YP : World → Heap → Prop} {d : DefRec} {K : Params → PySem.W.Frag} {CX : World → CXT} {x : Str} (hn : l.most = some n) (hn2 : n ≤ sizeLine) (hdf : d.params.defaults = []) (hr : Room k callerA) (hY : ∀ (w : World) (h : Heap), YP w h → (K w.params).In h)
    (F : ∀ (w : World) (mg : Str → Option Value) (fa : Addr) (h : Heap), YP w h → (K w.params).In h → h.Ns mainGlobals mg → mg d.name = some (.ref fa) → (∀ x, ((recsOf q).any fun e => e.name == x) = true → TabOf (K w.params) mg x h) → LamX.LawAtS l w (K w.params) (CX w) k n x mg fa h)
    (hCX : ∀ (w : World) (H : Hp) (s : Shared) (e : Value) (s' : Shared), CX w [] H s (fun _ _ _ => False) e s' → False) : PySem.W.WalkO q loose XP YP l.row.toRowW d [] (fun f vs => PySem.call f vs) := by
  refine Att.attach_callB hn hdf fun w s0 s1 mg mb fa o pm cd doc a vs ns G Y ho hd hcd hmg hobj hints hlen hbits hg => ?_
  have KX := hY w _ Y
  have tabs : ∀ x, ((recsOf q).any fun e => e.name == x) = true → TabOf (K w.params) mg x s1.heap := fun x hrec f2 c P o1 fd1 e dd v1 sl k0 k1 k2 k3 k4 k5 => by
    obtain ⟨dL, hm, hn1⟩ := List.any_eq_true.mp hrec
    obtain rfl : dL.name = x := beq_iff_eq.mp hn1
    obtain ⟨a', o', fd', c', P', h1, h2, h3, h4, h5, h6⟩ := G.T.tab dL hm
    rw [k0] at h1
    cases h1
    rw [KX _ _ k1] at h2
    cases h2
    rw [k2] at h3
    cases h3
    rw [k3] at h4
    cases h4
    obtain ⟨⟨oc, vc, e1, _, e3, e4⟩, hP⟩ := h6
    rw [KX _ _ k4] at e1
    cases e1
    cases e3
    rw [k5] at e4
    cases e4
    exact hP
  obtain ⟨fd, cs, sp, hT, nT, C, hb, hsp, hF⟩ := F w mg fa _ Y KX G.T.g hmg tabs
  exact LamX.law_callTs KX G.T.g G.T.b G.T.builtins G.T.nolimit hg hT nT C G.T.bmain hobj hints (Nat.le_trans hlen hn2) hr hF hb (fun H hH hS => hsp H a ns hlen hbits hH hS) fun H e s' => hCX w H s1 e s'
/-! ### facts of the errors' classes -/
theorem et_all {Pr : Str → Addr → Prop} : ∀ {L : List (Str × Addr)}, (∀ p ∈ L, Pr p.1 p.2) → ∀ n D, L.lookup n = some D → Pr n D
  | [], _, _, _, e => by cases e
  | (x, a) :: L, h, n, D, e => by
    rw [List.lookup_cons] at e
    by_cases q : (n == x) = true
    · rw [q] at e
      cases e
      rw [beq_iff_eq.mp q]
      exact h _ List.mem_cons_self
    · rw [Bool.not_eq_true] at q
      rw [q] at e
      exact et_all (fun p hp => h p (List.mem_cons_of_mem _ hp)) n D e
/-- what a try asks of the class that it names -/
def CatchAll (G : Pg) (mg : Str → Option Value) (x : Str) : Prop := ∃ C0, mg x = some (.ref C0) ∧ ∀ y C, G.ET y = some C → PySem.W.exmOne G.K (.ref C) (.ref C0) = some true
def OwnCls (G : Pg) (mg : Str → Option Value) (x : Str) (subs : List Str) : Prop := ∃ C, mg x = some (.ref C) ∧ KitE G (.ref C) fun n => subs.contains n
theorem ds_tryE {S : Ent} {X : Cx} (i : Nat) {x n : Str} {body suite : List Stmt} {b0 : Stmt} {np pos pos' : Pos} {B : Ts} {Bh : Addr → Option Addr → Er → Ts} (hs : X.stack = X.env :: X.outer) (hf : X.env.frame = some X.env.locals) (hN : X.N.Nodup) (hK : X.K = S.G.K) (hc : CatchAll S.G X.mg x) (hb : ∀ pn xe, DSs S (X.tr pn xe) body B)
    (hh : ∀ (a : Addr) (oe : Obj) (C : Addr) (dd : Option Addr) (pn : List (Addr × Obj)) (er : Er), Zc (.ref C) dd oe → (∃ vs, oe.data = .fields vs) → S.G.ET er.1 = some C → DSs S (X.suite a ((a, oe) :: pn)) (b0 :: suite) (Bh a dd er))
    (hi : X.N[i]? = some n := by rfl) (hln : X.env.kindOf n = some .local := by rfl) (hg : Gl X x := by rfl) (hdb : (x == ("__debug__" : Str)) = false := by decide) : DS S X (.Try body [.ExceptHandler (some (.Name x np)) (some n) (b0 :: suite) pos'] [] [] pos) (wTry i B Bh) := by
  obtain ⟨C0, m0, h0⟩ := hc
  exact ds_try i hs hf hN (fun y C e => by rw [hK]; exact h0 y C e) m0 hb hh hi hln hg hdb
section
variable {S : Ent} {X : Cx} {a D : Addr} {dd : Option Addr} {oe : Obj} {pn : List (Addr × Obj)} {er : Er} {n cn : Str} {p p1 p2 pos : Pos}
theorem dx_isEo (i : Nat) {subs : List Str} (hK : X.K = S.G.K) (ec : ErrCls S.G) (hz : Zc (.ref D) dd oe) (hf : ∃ vs, oe.data = .fields vs) (hD : S.G.ET er.1 = some D) (ke : OwnCls S.G X.mg cn subs) (hm : X.mg "isinstance" = none) (hN : X.N[i]? = some n := by rfl)
    (hvi : Vis X.env.scope n := by first | exact Or.inl rfl | exact Or.inr (Or.inl rfl) | exact Or.inr (Or.inr rfl)) (hg : Gl X "isinstance" := by rfl) (hg2 : Gl X cn := by rfl) (hd : (n == ("__debug__" : Str)) = false := by decide) (hcd : (n == ("__classdict__" : Str)) = false := by decide) (hd2 : (cn == ("__debug__" : Str)) = false := by decide) :
    DE S (X.suite a ((a, oe) :: pn)) (.Call (.Name "isinstance" p) [.Name n p1, .Name cn p2] [] pos) (wIsE i a dd er fun n => subs.contains n) := by
  obtain ⟨C, m, k⟩ := ke
  exact dx_isE i hK ec hz hf hD k hm (by decide +kernel) (pe_glob (v := .ref C) hg2 m rfl hd2) (fun _ h => h) hN hvi hg hd hcd
theorem dx_isEb (i : Nat) {T : String} {sub : Str → Bool} (hK : X.K = S.G.K) (ec : ErrCls S.G) (hz : Zc (.ref D) dd oe) (hf : ∃ vs, oe.data = .fields vs) (hD : S.G.ET er.1 = some D) (ke : KitE S.G (.type T) sub) (hm : X.mg "isinstance" = none) (hm2 : X.mg cn = none) (hv2 : bootBuiltins cn = some (.type T)) (hN : X.N[i]? = some n := by rfl)
    (hvi : Vis X.env.scope n := by first | exact Or.inl rfl | exact Or.inr (Or.inl rfl) | exact Or.inr (Or.inr rfl)) (hg : Gl X "isinstance" := by rfl) (hg2 : Gl X cn := by rfl) (hd : (n == ("__debug__" : Str)) = false := by decide) (hcd : (n == ("__classdict__" : Str)) = false := by decide) (hn2 : cn ≠ "__name__" := by decide) (hd2 : (cn == ("__debug__" : Str)) = false := by decide) :
    DE S (X.suite a ((a, oe) :: pn)) (.Call (.Name "isinstance" p) [.Name n p1, .Name cn p2] [] pos) (wIsE i a dd er sub) :=
  dx_isE i hK ec hz hf hD ke hm (by decide +kernel) (pe_bltn (v := .ty T) hg2 hm2 hv2 rfl hn2 hd2) (fun _ h => h) hN hvi hg hd hcd
end
end DV

set_option Elab.async false
set_option linter.all false
set_option maxRecDepth 100000
/-! DV13: more of the language. -/
namespace DV
open PySem PySem.Spec PyProof.Rows L2
/-! ### isinstance(x, (T, U)) -/
def wIsT2 (t u : Ty) (T : Tm) : Tm := fun env Q E => T env (fun d env1 => d.isHand = false ∧ Q (.bl (d.isTy t || d.isTy u)) env1) E
section
variable {S : Ent} {X : Cx} {a : Expr} {Ta : Tm} {p p2 p3 p4 pos : Pos}
theorem dx_isT2 (t u : Ty) {tn un : Str} {kk : Nat} (hK : X.K = S.G.K) (hO : ∀ c C, S.G.CT c = some C → ObjCls S.G.K C) (hm : X.mg "isinstance" = none) (hv : bootBuiltins "isinstance" = some (.builtin "isinstance")) (ha : DB S X a Ta)
    (m1 : X.mg tn = none) (v1 : bootBuiltins tn = some (.type t.nm)) (m2 : X.mg un = none) (v2 : bootBuiltins un = some (.type u.nm)) (hg : Gl X "isinstance" := by rfl) (g1 : Gl X tn := by rfl) (g2 : Gl X un := by rfl) (n1 : tn ≠ "__name__" := by decide) (n2 : un ≠ "__name__" := by decide)
    (d1 : (tn == ("__debug__" : Str)) = false := by decide) (d2 : (un == ("__debug__" : Str)) = false := by decide)
    (he : starEach [a, .Tuple [.Name tn p2, .Name un p3] kk p4] X.env = (false, eval a X.env) :: starEach [.Tuple [.Name tn p2, .Name un p3] kk p4] X.env := by rfl) (hpl : (backTo pos (starEach [.Tuple [.Name tn p2, .Name un p3] kk p4] X.env)).any (·.1) = false := by rfl) :
    DE S X (.Call (.Name "isinstance" p) [a, .Tuple [.Name tn p2, .Name un p3] kk p4] [] pos) (wIsT2 t u Ta) := ⟨fun W tk => by
  obtain ⟨ta, pa, ra⟩ := ha.run W tk
  refine ⟨_, pe_callB call_isiT hg hm hv (pa_cons pa (pa_cons (pe_tup (pa_cons (pe_bltn (v := .ty t.nm) g1 m1 v1 rfl n1 d1) (pa_cons (pe_bltn (v := .ty u.nm) g2 m2 v2 rfl n2 d2) pa_nil))) pa_nil) he) (by decide) (by decide) he hpl, fun Z env σ H Q E Q' R hT k x => ?_⟩
  refine ra Z env σ H _ E _ R hT (fun Z1 env1 v d H1 R1 t1 r1 h1 => ?_) x
  refine ⟨by show 2 ≤ _; rw [sizeLine_eq]; decide, fun q hq => ?_⟩
  have sm := same_upd (o := .tup [.ty t.nm, .ty u.nm]) hq
  have R2 := R1.grow sm
  have r2 := r1.on R1 (.alloc sm)
  obtain ⟨w1, ty1, kk⟩ := kit_of_rep hO r2 h1.1
  rw [← hK] at ty1
  refine ⟨v, q, _, w1, [.type t.nm, .type u.nm], _, rfl, upd_same, .cons (.ty _) (.cons (.ty _) .nil), ty1, ?_, k Z1 env1 _ _ _ R2 (Tr.trans R1 t1 (.alloc sm)) (.bl _) h1.2⟩
  rw [hK]
  unfold PySem.W.kitAny
  rw [kk t]
  cases d.isTy t with
  | true => rfl
  | false =>
    show PySem.W.kitAny S.G.K w1 [.type u.nm] = _
    unfold PySem.W.kitAny
    rw [kk u]
    cases d.isTy u <;> rfl⟩
end
/-! ### an empty dict -/
def wDct0 : Tm := fun env Q _ => Q (.dct []) env
theorem dx_dict0 {S : Ent} {X : Cx} {pos : Pos} : DE S X (.Dict [] [] pos) wDct0 := ⟨fun W tk => by
  refine ⟨_, pe_dnewK, fun Z env σ H Q E Q' R hT k x => ?_⟩
  intro p hp
  have sm := same_upd (o := .dK []) hp
  exact k Z env _ _ _ (R.grow sm) (.alloc sm) (.dK (vis_out (R.free hp) upd_same) rfl .nil rfl) hT⟩
/-! ### xs.append(ys.pop(e)) -/
def wAppPop (i j : Nat) (T : Tm) : Ts := fun env P => (∃ a xs, env[i]? = some (.own a xs)) ∧ (∃ b ys, env[j]? = some (.own b ys)) ∧ T env (fun d env1 => ∃ a xs b ys n k v, env1[i]? = some (.own a xs) ∧ env1[j]? = some (.own b ys) ∧ d = .int n ∧ ys.length ≤ big ∧ ixN ys.length n = some k ∧ ys[k]? = some v ∧ xs.length < big ∧
  P.nx ((env1.set j (.own b (ys.eraseIdx k))).set i (.own a (xs ++ [v])))) P.ex
theorem ds_appPop {S : Ent} {X : Cx} {e : Expr} {Te : Tm} (i j : Nat) {x y : Str} {px py apos bpos cpos dpos pos : Pos} (hij : i ≠ j) (h : DE S X e Te) (hN : X.N[i]? = some x := by rfl) (hM : X.N[j]? = some y := by rfl) (hv : Vis X.env.scope x := by first | exact Or.inl rfl | exact Or.inr (Or.inl rfl) | exact Or.inr (Or.inr rfl))
    (hw : Vis X.env.scope y := by first | exact Or.inl rfl | exact Or.inr (Or.inl rfl) | exact Or.inr (Or.inr rfl)) (hbase : attributeBase (.Name x px) "append" X.env (eval (.Name x px) X.env) = eval (.Name x px) X.env := by rfl) (hbas2 : attributeBase (.Name y py) "pop" X.env (eval (.Name y py) X.env) = eval (.Name y py) X.env := by rfl)
    (hfew : ((backTo cpos (starEach [.Call (.Attribute (.Name y py) "pop" bpos) [e] [] dpos] X.env)).all (fun x => !x.1) && (backToKw cpos (keywordEach [] X.env)).all (fun x => x.1.isSome) && decide (([.Call (.Attribute (.Name y py) "pop" bpos) [e] [] dpos] : List Expr).length + ([] : List Keyword).length + (if ([] : List Keyword).isEmpty then 0 else 1) < 30)) = true := by rfl)
    (hfe2 : ((backTo dpos (starEach [e] X.env)).all (fun x => !x.1) && (backToKw dpos (keywordEach [] X.env)).all (fun x => x.1.isSome) && decide (([e] : List Expr).length + ([] : List Keyword).length + (if ([] : List Keyword).isEmpty then 0 else 1) < 30)) = true := by rfl)
    (hl1 : (apos.endLine == cpos.line) = true := by rfl) (hl2 : (bpos.endLine == dpos.line) = true := by rfl) (hs1 : starEach [.Call (.Attribute (.Name y py) "pop" bpos) [e] [] dpos] X.env = (false, eval (.Call (.Attribute (.Name y py) "pop" bpos) [e] [] dpos) X.env) :: starEach [] X.env := by rfl)
    (hs2 : starEach [e] X.env = (false, eval e X.env) :: starEach [] X.env := by rfl) (hs : swapsWith (.Call (.Attribute (.Name x px) "append" apos) [.Call (.Attribute (.Name y py) "pop" bpos) [e] [] dpos] [] cpos) none pos.line X.env = pure false := by rfl)
    (hd : (x == ("__debug__" : Str)) = false := by decide) (hcd : (x == ("__classdict__" : Str)) = false := by decide) (hd2 : (y == ("__debug__" : Str)) = false := by decide) (hcd2 : (y == ("__classdict__" : Str)) = false := by decide) :
    DS S X (.Expr (.Call (.Attribute (.Name x px) "append" apos) [.Call (.Attribute (.Name y py) "pop" bpos) [e] [] dpos] [] cpos) pos) (wAppPop i j Te) := ⟨fun W tk pa => by
  obtain ⟨t, p, q⟩ := h.run W tk
  have pp := pe_bm PySem.F.plainAttrs_list PySem.F.slot_list_pop PySem.F.type_list_pop mt_popAt (pe_var (i := j) hM hw hd2 hcd2) (pa_cons p pa_nil hs2) hbas2 hfe2 hl2 hs2 rfl
  refine ⟨_, ps_expr (pe_bm PySem.F.plainAttrs_list PySem.F.slot_list_append PySem.F.type_list_append mt_append (pe_var hN hv hd hcd) (pa_cons pp pa_nil hs1) hbase hfew hl1 hs1 rfl) hs, fun Z env σ H P D' R hT f => ?_⟩
  obtain ⟨⟨a, xs0, e0⟩, ⟨b, ys0, f0⟩, hT⟩ := hT
  obtain ⟨vs0, es, a1, a2, a3, a4, a5⟩ := R.slots i _ e0
  obtain ⟨ws0, fs, b1, b2, b3, b4, b5⟩ := R.slots j _ f0
  refine ⟨_, es, .inl ⟨rfl, _, SqL.of a4⟩, ?_⟩
  refine ⟨_, fs, .inl ⟨rfl, _, SqL.of b4⟩, ?_⟩
  refine q Z env σ H _ _ _ R hT (fun Z1 env1 w d H1 R1 t1 r1 h1 => ?_) ((f.ex σ).ok R)
  obtain ⟨a', xs, b', ys, n, k, v, e1, f1, rfl, hz, hk, hv', hx, h1⟩ := h1
  obtain ⟨vs, es1, c1, c2, c3, c4, c5⟩ := R1.slots i _ e1
  obtain ⟨ws, fs1, d1, d2, d3, d4, d5⟩ := R1.slots j _ f1
  rw [es] at es1; cases es1
  rw [fs] at fs1; cases fs1
  cases r1
  obtain ⟨u, hu, ru⟩ := d5.get hv'
  obtain ⟨k1, k2, k3, k4⟩ := ixN_seq hk
  have hl := d5.length
  refine ⟨b, ws, n, k, u, rfl, rfl, d4, ?_, ?_, by rw [hl]; exact k1, hu, ?_⟩
  · unfold big at hz; omega
  · unfold big at hz; omega
  have R2 := R1.write (y := .own b (ys.eraseIdx k)) (o := .lst (ws.eraseIdx k)) f1 rfl rfl fs ⟨rfl, _, upd_same, by rw [vis_upd_in d1]; exact d5.eraseIdx k⟩
  have ne : a ≠ b := fun z => hij (R1.inj i j _ _ a e1 f1 rfl rfl es (by rw [z]; exact fs))
  have e2 : (env1.set j (.own b (ys.eraseIdx k)))[i]? = some (.own a xs) := by rw [List.getElem?_set_ne (Ne.symm hij)]; exact e1
  refine ⟨a, vs, u, rfl, rfl, by rw [upd_ne ne]; exact c4, by rw [c5.length, sizeLine_eq]; unfold big at hx; omega, ?_⟩
  have v2 : Vle Z1 H1 Z1 (upd H1 b (.lst (ws.eraseIdx k))) := ⟨fun o x z => by rw [vis_upd_in d1]; exact z, fun _ h => h⟩
  have R3 := R2.write (y := .own a (xs ++ [v])) (o := .lst (vs ++ [u])) e2 rfl rfl es ⟨rfl, _, upd_same, by rw [vis_upd_in c1, vis_upd_in d1]; exact c5.append (.cons ru .nil)⟩
  exact f.nx Z1 _ σ _ R3 ((R.vle t1).trans (v2.trans ⟨fun o x z => by rw [vis_upd_in c1]; exact z, fun _ h => h⟩)) h1⟩
/-! ### list(x), sorted(x) -/
section
variable {S : Ent} {X : Cx}
def gList : GL := fun ds Q => match ds with
  | [.lst xs] => Q (.lst xs)
  | [.tup xs] => Q (.lst xs)
  | _ => False
theorem cd_list (hK : X.K = S.G.K) : CallD S X (.type "list") gList := by
  refine ⟨_, call_list_of, fun Z H vs ds Qd Q' hl hr hg k oin => ?_⟩
  unfold gList at hg
  split at hg
  · obtain ⟨v, rfl, r⟩ := one_of hl hr
    obtain ⟨p, ws, rfl, ep, rp⟩ := r.lst
    exact ⟨p, ws, rfl, .inl (SqL.of ep), fun q hq => k _ _ _ (same_upd hq) (new_lst oin hq rp) hg⟩
  · obtain ⟨v, rfl, r⟩ := one_of hl hr
    obtain ⟨p, ws, rfl, ep, rp⟩ := r.tup
    rw [← hK] at ep
    exact ⟨p, ws, rfl, .inr ep, fun q hq => k _ _ _ (same_upd hq) (new_lst oin hq rp) hg⟩
  · exact hg.elim
/-- sorted(a list of ints) -/
def gSorted : GL := fun ds Q => match ds with
  | [.lst xs] => ∃ ns, toIs xs = some ns ∧ ∀ ms : List Int, ms.Perm ns → ms.Pairwise (· ≤ ·) → Q (.lst (ms.map D.int))
  | _ => False
theorem cd_sorted : CallD S X (.builtin "sorted") gSorted := by
  refine ⟨_, cr_sortedI, fun Z H vs ds Qd Q' hl hr hg k oin => ?_⟩
  unfold gSorted at hg
  split at hg
  · obtain ⟨ns, h1, h2⟩ := hg
    obtain ⟨v, rfl, r⟩ := one_of hl hr
    obtain ⟨p, ws, rfl, ep, rp⟩ := r.lst
    rw [toIs_eq h1] at rp
    rw [rp.ints] at ep
    exact ⟨p, ns, rfl, SqL.of ep, fun ms q hp hw hq => k _ _ _ (same_upd hq) (new_lst oin hq (RepL.of_ints ms)) (h2 ms hp hw)⟩
  · exact hg.elim
/-- list(x), a list of one's own -/
def wLstOf (T : Tm) : Tf := fun env Q E => T env (fun d env1 => ∃ xs, itemsOf d = some xs ∧ ∀ a, Q (.own a xs) env1) E
theorem df_listOf {a : Expr} {Ta : Tm} {p pos : Pos} (hK : X.K = S.G.K) (hm : X.mg "list" = none) (ha : DB S X a Ta) (hg : Gl X "list" := by rfl) (he : starEach [a] X.env = (false, eval a X.env) :: starEach [] X.env := by rfl) : DF S X (.Call (.Name "list" p) [a] [] pos) (wLstOf Ta) := ⟨fun W tk => by
  obtain ⟨t, pa, q⟩ := ha.run W tk
  refine ⟨_, pe_callTy call_list_of hg hm (by decide +kernel) (pa_cons pa pa_nil he) (by decide) (by decide) he rfl, fun Z env σ H Q E Q' R hT k x => ?_⟩
  refine q Z env σ H _ E _ R hT (fun Z1 env1 v d H1 R1 t1 r1 h1 => ?_) x
  obtain ⟨xs, hx, h1⟩ := h1
  have fin : ∀ (g : Addr) (ws : List V), v = .ref g → (SqL X.K H1 g ws ∨ SqT X.K H1 g ws) → RepL S.G (vis Z1.O H1) Z1.h ws xs → ∃ p ys, [v] = [V.ref p] ∧ (SqL X.K H1 p ys ∨ SqT X.K H1 p ys) ∧ ∀ l, H1 l = none → Q' (.ref l) (upd H1 l (.lst ys)) := fun g ws ev hs rl =>
    ⟨g, ws, by rw [ev], hs, fun l hl => by
      obtain ⟨R2, t2, no, h0, hh, hn⟩ := R1.hide (o := .lst ws) hl
      exact k _ env1 l (.own l xs) _ R2 (Tr.trans R1 t1 t2) ⟨List.mem_cons_self, hh, h0, no⟩ (fun hb => hn (R1.res l hb).ino) rfl ⟨rfl, ws, upd_same, (R1.vle t2).repL rl⟩ (h1 l)⟩
  cases d with
  | lst ys =>
    cases hx
    obtain ⟨g, ws, ev, ep, rp⟩ := r1.lst
    exact fin g ws ev (.inl (SqL.of ep)) rp
  | tup ys =>
    cases hx
    obtain ⟨g, ws, ev, ep, rp⟩ := r1.tup
    rw [← hK] at ep
    exact fin g ws ev (.inr ep) rp
  | _ => cases hx⟩
end
end DV

set_option Elab.async false
set_option linter.all false
set_option maxRecDepth 100000
/-! DV14: the facts of own error classes, gathered. -/
namespace DV
open PySem PySem.Spec PyProof.Rows L2
/-- an own error class, as the top has written it -/
structure OwnE (K : PySem.W.Frag) (C fI : Addr) : Prop where
  o : OexC K C
  x : ExcC K C
  i1 : PySem.W.findIn K (.ref C) "__init__" = some (some (.ref fI))
theorem ownE_mk {K : PySem.W.Frag} {C fI : Addr} {nm q : Str} {N : Addr} {bs bm : List Value} {sn : List Str} {sub : List Value} {ab : Bool} {col : Option Bool} {dd : Option Addr} {m0 m1 m2 m3 m5 : Option Value}
    (xL : K.lookup C = some (excClassObj nm q C N bs bm true sn sub ab col dd m0 m1 m2 m3 m5 "ValueError.__new__")) (bmv : PySem.HandSPX.refsVE bm = true)
    (sa : PySem.W.findIn K (.ref C) "__setattr__" = some (some (.builtin "object.__setattr__"))) (ga : PySem.W.findIn K (.ref C) "__getattribute__" = some (some (.builtin "BaseException.__getattribute__"))) (gg : PySem.W.findIn K (.ref C) "__getattr__" = some none)
    (i1 : PySem.W.findIn K (.ref C) "__init__" = some (some (.ref fI))) (kC : PySem.W.keepIn K (.ref C) = true) (eC : PySem.W.subIn K (.ref C) (.type "BaseException") = some true) (tC : PySem.W.typeIn K (.ref C) = some (.type "type")) (hC : PySem.W.hasDictIn K C = true)
    (cl : PySem.W.findIn K (.ref C) "__class__" = some (some (.builtin "object.__class__"))) (mO : PySem.W.mroIn K C (.type "object") = some true)
    (hn : PySem.W.specialIn K (.builtin "object.__class__") "__get__" = some (some (.builtin "getset_descriptor.__get__"))) (ht : PySem.W.takesIn K (.builtin "object.__class__") = some true) : OwnE K C fI :=
  ⟨⟨⟨_, _, _, _, _, _, _, _, _, _, _, _, _, _, _, xL, bmv⟩, sa, eC, tC, kC⟩, ⟨ga, gg, eC, hC, cl, hn, ht, mO⟩, i1⟩
theorem OwnE.er {P : Program} {w : World} {G : Pg} {mg : Str → Option Value} {base : Heap} {x : Str} {k : Nat} {sp : Sp} {C fI : Addr} {fd : FuncData} {ps : List Str} (h : OwnE G.K C fI) (hG : G.ET x = some C) (hm : mg x = some (.ref C)) (t1 : PySem.W.typeIn G.K (.ref fI) = some (.type "function")) (hb : L2.Binds G.K fd ps [])
    (F : FnOk P w G.K mg base (L2.CX P w) k fI fd ps sp) : ErC P w G mg base x k sp := ⟨⟨C, fI, fd, ps, hG, hm, h.o, h.i1, t1, hb, F⟩⟩
theorem OwnE.xf {K : PySem.W.Frag} {C fI : Addr} (h : OwnE K C fI) : XfC K C := ⟨h.x.hg, h.x.hk, h.x.hs, h.x.hd⟩
/-- an except clause that names the class D takes C -/
theorem OwnE.exm {K : PySem.W.Frag} {C D fJ : Addr} (hD : OwnE K D fJ) (s : PySem.W.subIn K (.ref C) (.ref D) = some true) : PySem.W.exmOne K (.ref C) (.ref D) = some true := PySem.W.exm_ref hD.x.hs hD.x.hd hD.o.tyC s
theorem errCls_of {G : Pg} {L : List (Str × Addr)} (hET : G.ET = fun n => L.lookup n) (h : ∀ p ∈ L, ∃ fI, OwnE G.K p.2 fI) : ErrCls G := by
  refine ⟨fun n D e => ?_, fun n D e => ?_⟩
  · rw [hET] at e
    obtain ⟨fI, o⟩ := et_all (Pr := fun _ D => ∃ fI, OwnE G.K D fI) h n D e
    exact o.x
  · rw [hET] at e
    obtain ⟨fI, o⟩ := et_all (Pr := fun _ D => ∃ fI, OwnE G.K D fI) h n D e
    exact o.xf
theorem kitE_of {G : Pg} {cv : Value} {sub : Str → Bool} {L : List (Str × Addr)} (hET : G.ET = fun n => L.lookup n) (h : ∀ p ∈ L, PySem.W.kitOne G.K (.ref p.2) cv = some (sub p.1)) : KitE G cv sub :=
  ⟨fun n D e => by rw [hET] at e; exact et_all (Pr := fun n D => PySem.W.kitOne G.K (.ref D) cv = some (sub n)) h n D e⟩
/-! ### the end -/
theorem tabs0 {T : List (Addr × Str)} {cs : List (Addr × Addr)} {H : Hp} (h : ∀ p ∈ T, ∃ c, (c, p.1) ∈ cs) (e : ∀ p ∈ cs, H p.2 = some (.tbl #[])) : LamX.Tabs T H := fun p hp => by
  obtain ⟨c, hc⟩ := h p hp
  exact ⟨#[], e _ hc, trivial, fun q cv h => by cases h⟩
end DV

set_option Elab.async false
set_option linter.all false
set_option maxRecDepth 100000
/-! DV15: targets that change own lists (a, x[i] = ..), new lists by [e] * n. -/
namespace DV
open PySem PySem.Spec PyProof.Rows L2
abbrev Tx := D → Env → (Env → Prop) → Ex → Prop
abbrev Txs := List D → Env → (Env → Prop) → Ex → Prop
structure DH (S : Ent) (X : Cx) (tg : Expr) (g : Tx) : Prop where
  run : ∀ W, Takes X W → ∃ t, PG X tg t ∧ ∀ Z env σ H v d (K : Env → Prop) (E : Ex) (K' : L2.St → Hp → Prop), Rel S Z env σ H → RS S.G Z H v d → g d env K E → (∀ σ', ExV S Z H σ' E W) →
    (∀ Z' env' σ' H', Rel S Z' env' σ' H' → Vle Z H Z' H' → K env' → K' σ' H') → t v σ H K'
structure DHs (S : Ent) (X : Cx) (tg : List Expr) (g : Txs) : Prop where
  run : ∀ W, Takes X W → ∃ t, PGs X tg t ∧ ∀ Z env σ H vs ds (K : Env → Prop) (E : Ex) (K' : L2.St → Hp → Prop), Rel S Z env σ H → RepL S.G (vis Z.O H) Z.h vs ds → g ds env K E → (∀ σ', ExV S Z H σ' E W) →
    (∀ Z' env' σ' H', Rel S Z' env' σ' H' → Vle Z H Z' H' → K env' → K' σ' H') → t vs σ H K'
section
variable {S : Ent} {X : Cx} {e a b : Expr} {Te : Tm} {pos : Pos}
def hN (g : Tg) : Tx := fun d env K _ => g d env K
theorem dh_of {tg : Expr} {ix : List Nat} {g : Tg} (h : DG S X tg ix g) : DH S X tg (hN g) := ⟨fun W tk => by
  obtain ⟨t, p, q⟩ := h.run
  exact ⟨t, p, fun Z env σ H v d K E K' R r hg _ k => q Z env σ H v d K _ R r hg fun env' σ' R' _ h => k Z env' σ' H R' .refl h⟩⟩
def hIx (i : Nat) (Ti' : Tm) : Tx := fun d env K E => (∃ a xs, env[i]? = some (.own a xs)) ∧ Ti' env (fun k env2 => ∃ a xs n j, env2[i]? = some (.own a xs) ∧ k = .int n ∧ ixN xs.length n = some j ∧ K (env2.set i (.own a (xs.set j d)))) E
theorem dh_ix (i : Nat) {x : Str} {px p' : Pos} {ie : Expr} {Tk : Tm} (hi : DB S X ie Tk) (hN : X.N[i]? = some x := by rfl) (hv : Vis X.env.scope x := by first | exact Or.inl rfl | exact Or.inr (Or.inl rfl) | exact Or.inr (Or.inr rfl))
    (ha : ∀ v, assign (.Subscript (.Name x px) ie p') X.env v = (do
      let ov ← holding [v] (eval (.Name x px) X.env)
      let iv ← holding [v, ov] (eval ie X.env)
      standAt p'
      holding [v, ov, iv] (setItem ov iv v)
      release [v, ov, iv] []) := by intro _; rfl)
    (hd : (x == ("__debug__" : Str)) = false := by decide) (hcd : (x == ("__classdict__" : Str)) = false := by decide) : DH S X (.Subscript (.Name x px) ie p') (hIx i Tk) := ⟨fun W tk => by
  obtain ⟨tk', pk, qk⟩ := hi.run W tk
  refine ⟨_, pg_sub (pe_var hN hv hd hcd) pk set_list ha, fun Z env σ H v d K E K' R r1 hg fx k => ?_⟩
  obtain ⟨⟨a, xs0, e0⟩, h1⟩ := hg
  obtain ⟨vs0, es, a1, a2, a3, a4, a5⟩ := R.slots i _ e0
  refine ⟨_, es, ?_⟩
  refine qk Z env σ H _ _ _ R h1 (fun Z2 env2 w k2 H2 R2 t2 r2 h2 => ?_) ((fx σ).ok R)
  obtain ⟨b, xs, n, j, e1, rfl, hj, h2⟩ := h2
  obtain ⟨vs, es1, b1, b2, b3, b4, b5⟩ := R2.slots i _ e1
  rw [es] at es1; cases es1
  refine ⟨a, vs, n, j, rfl, r2.int, b4, by rw [b5.length]; exact hj, ?_⟩
  have R3 := R2.write (y := .own a (xs.set j d)) (o := .lst (vs.set j v)) e1 rfl rfl es ⟨rfl, _, upd_same, by rw [vis_upd_in b1]; exact b5.set (RS.on r1 R t2) j⟩
  exact k Z2 _ σ _ R3 ((R.vle t2).trans ⟨fun b o e => by rw [vis_upd_in b1]; exact e, fun _ h => h⟩) h2⟩
def hNil : Txs := fun ds env K _ => ds = [] ∧ K env
def hCons (g : Tx) (gs : Txs) : Txs := fun ds env K E => match ds with
  | d :: r => g d env (fun env1 => gs r env1 K E) E
  | [] => False
def hTup (n : Nat) (gs : Txs) : Tx := fun d env K E => match d with
  | .tup ds => ds.length = n ∧ gs ds env K E
  | _ => False
theorem dhs_nil : DHs S X [] hNil := ⟨fun W tk => ⟨_, pgs_nil, fun Z env σ H vs ds K E K' R r hg _ k => by
  obtain ⟨rfl, hg⟩ := hg
  cases r
  exact ⟨rfl, k Z env σ H R .refl hg⟩⟩⟩
theorem dhs_cons {e : Expr} {es : List Expr} {g : Tx} {gs : Txs} (h1 : DH S X e g) (h2 : DHs S X es gs) (hs : (assignEach (e :: es) X.env).map (·.2) = assign e X.env :: (assignEach es X.env).map (·.2) := by rfl) :
    DHs S X (e :: es) (hCons g gs) := ⟨fun W tk => by
  obtain ⟨t, p, q⟩ := h1.run W tk
  obtain ⟨t', p', q'⟩ := h2.run W tk
  refine ⟨_, pgs_cons p p' hs, fun Z env σ H vs ds K E K' R r hg fx k => ?_⟩
  cases r with
  | nil => exact hg.elim
  | cons r rs =>
    refine ⟨_, _, rfl, q Z env σ H _ _ _ E _ R r hg fx fun Z1 env1 σ1 H1 R1 v1 h1 => ?_⟩
    exact q' Z1 env1 σ1 H1 _ _ K E K' R1 (v1.repL rs) h1 (fun s => (fx s).on v1) fun Z2 env2 σ2 H2 R2 v2 h2 => k Z2 env2 σ2 H2 R2 (v1.trans v2) h2⟩
theorem dh_tup {es : List Expr} {kk : Nat} {pos : Pos} {gs : Txs} {n : Nat} (hK : X.K = S.G.K) (hc : X.calm = true) (h : DHs S X es gs) (hn : (assignEach es X.env).length = n := by rfl) (hst : (assignEach es X.env).findIdx? (·.1) = none := by rfl) :
    DH S X (.Tuple es kk pos) (hTup n gs) := ⟨fun W tk => by
  obtain ⟨t, p, q⟩ := h.run W tk
  refine ⟨_, pg_tup hc p hn hst, fun Z env σ H v d K E K' R r hg fx k => ?_⟩
  unfold hTup at hg
  split at hg
  · cases r with
    | tup e rl =>
      exact ⟨_, _, rfl, by rw [hK]; exact sqT_vis e, by rw [rl.length]; exact hg.1, q Z env σ H _ _ K E K' R rl hg.2 fx k⟩
  · exact hg.elim⟩
def wAsgH (T : Tm) (g : Tx) : Ts := fun env P => T env (fun d env1 => g d env1 P.nx P.ex) P.ex
theorem ds_asgH {tg : Expr} {g : Tx} (h : DE S X e Te) (hg : DH S X tg g) (hs : swapsWithSole [tg] e pos.line X.env = pure false := by rfl) (hw : swappedStores [tg] e X.env = pure none := by rfl)
    (h1 : (assignEach [tg] X.env).map (·.2) = [assign tg X.env] := by rfl) : DS S X (.Assign [tg] e pos) (wAsgH Te g) := ⟨fun W tk pa => by
  obtain ⟨t, p, q⟩ := h.run W tk
  obtain ⟨tg', pg, qg⟩ := hg.run W tk
  exact ⟨_, ps_asg p pg hs hw h1, fun Z env σ H P D' R hT f => q Z env σ H _ _ _ R hT (fun Z1 env1 v d H1 R1 t1 r1 h1 =>
    qg Z1 env1 σ H1 v d _ _ _ R1 r1 h1 (fun s => (f.ex s).on (R.vle t1)) fun Z2 env2 σ2 H2 R2 v2 h2 => f.nx Z2 env2 σ2 H2 R2 ((R.vle t1).trans v2) h2) ((f.ex σ).ok R)⟩⟩
/-! ### [..] * n, a list of one's own -/
def wRepF (Ta Tb : Tm) : Tf := fun env Q E => Ta env (fun x env1 => Tb env1 (fun y env2 => ∃ xs k, x = .lst xs ∧ y = .int k ∧ k < 1000000 ∧ xs.length * k.toNat ≤ big ∧ -1000000 < k ∧ ∀ p, Q (.own p (List.replicate k.toNat xs).flatten) env2) E) E
theorem df_rep {Ta Tb : Tm} (ha : DB S X a Ta) (hb : DB S X b Tb) : DF S X (.BinOp a .Mult b pos) (wRepF Ta Tb) := ⟨fun W tk => by
  obtain ⟨ta, pa, ra⟩ := ha.run W tk
  obtain ⟨tb, pb, rb⟩ := hb.run W tk
  refine ⟨_, pe_op op_rep pa pb, fun Z env σ H Q E Q' R hT k x => ?_⟩
  refine ra Z env σ H _ E _ R hT (fun Z1 env1 v1 d1 H1 R1 t1 r1 h1 => ?_) x
  refine rb Z1 env1 σ H1 _ E _ R1 h1 (fun Z2 env2 v2 d2 H2 R2 t2 r2 h2 => ?_) (x.on R1 t1)
  obtain ⟨xs, n, rfl, rfl, g1, g2, g3, h2⟩ := h2
  have t12 := Tr.trans R1 t1 t2
  obtain ⟨g, vs, rfl, ea, rl⟩ := (r1.on R1 t2).lst
  rw [r2.int]
  refine ⟨g, n, vs, rfl, rfl, ea, by omega, by omega, by rw [rl.length]; exact big_line g2, fun p hp => ?_⟩
  obtain ⟨R3, t3, no, h0, hh, hn⟩ := R2.hide (o := .lst (List.replicate n.toNat vs).flatten) hp
  refine k _ env2 p (.own p _) _ R3 (Tr.trans R2 t12 t3) ⟨List.mem_cons_self, hh, h0, no⟩ (fun hb => hn (R2.res p hb).ino) rfl ⟨rfl, _, upd_same, ?_⟩ (h2 p)
  exact (R2.vle t3).repL (rl.rep _)⟩
end
/-! ### the end -/
/-- the program's fixed part: tables of lambdas' holders, error classes -/
abbrev pgOf (K : PySem.W.Frag) (T : List (Addr × Str)) (L : List (Str × Addr)) (FL : List (Str × Addr) := []) : Pg := ⟨K, fun _ => none, T, fun n => L.lookup n, fun n => FL.lookup n⟩
end DV

set_option Elab.async false
set_option linter.all false
set_option maxRecDepth 100000
/-! DV16: sorted(set(x)), x a list of tuples of ints. -/
namespace DV
open PySem PySem.Spec PyProof.Rows L2
def dT (k : List Int) : D := .tup (k.map D.int)
theorem tups_of {G : Pg} {H : Hp} {hh : Option Addr} : ∀ {ks : List (List Int)} {vs : List V}, RepL G H hh vs (ks.map dT) → ∃ kk : List (Addr × List Int), vs = kk.map (fun p => V.ref p.1) ∧ kk.map (·.2) = ks ∧ ∀ p ∈ kk, SqT G.K H p.1 (p.2.map V.int)
  | [], _, r => by
    cases r
    exact ⟨[], rfl, rfl, fun _ h => by cases h⟩
  | k :: ks, _, r => by
    cases r with
    | cons r rs =>
      obtain ⟨kk, e1, e2, h⟩ := tups_of rs
      cases r with
      | tup e rl =>
        rename_i a vs'
        have := rl.ints
        subst this
        refine ⟨(a, k) :: kk, by rw [e1]; rfl, by rw [List.map_cons, e2], fun p hp => ?_⟩
        rcases List.mem_cons.mp hp with rfl | hp
        · exact e
        · exact h p hp
theorem rep_tups {G : Pg} {H : Hp} {hh : Option Addr} : ∀ {kk : List (Addr × List Int)}, (∀ p ∈ kk, SqT G.K H p.1 (p.2.map V.int)) → RepL G H hh (kk.map fun p => V.ref p.1) ((kk.map (·.2)).map dT)
  | [], _ => .nil
  | p :: kk, h => .cons (.tup (h p List.mem_cons_self) (RepL.of_ints _)) (rep_tups fun q hq => h q (List.mem_cons_of_mem _ hq))
/-- sorted(set(x)): the tuples, all of one length, each once, in the tuples' order -/
def wSSet (T : Tm) : Tm := fun env Q E => T env (fun d env1 => ∃ (ks : List (List Int)) (n : Nat) (B : Int), d = .lst (ks.map dT) ∧ ks.length < 64 ∧ 1 ≤ n ∧ (∀ k ∈ ks, k.length = n ∧ ∀ m ∈ k, 0 ≤ m ∧ m < B) ∧
  ∀ ls : List (List Int), (∀ k, k ∈ ls ↔ k ∈ ks) → ls.Nodup → ls.length < 64 → ls.Pairwise (fun x y => TS.code B x ≤ TS.code B y) → Q (.lst (ls.map dT)) env1) E
theorem dx_sset {S : Ent} {X : Cx} {a : Expr} {Ta : Tm} {p p2 pos pos2 : Pos} (hK : X.K = S.G.K) (hc : X.calm = true) (hu : X.A.units + 64 < cLine) (hm : X.mg "sorted" = none) (hm2 : X.mg "set" = none) (ha : DB S X a Ta) (hg : Gl X "sorted" := by rfl) (hg2 : Gl X "set" := by rfl)
    (he : starEach [a] X.env = (false, eval a X.env) :: starEach [] X.env := by rfl)
    (he2 : starEach [.Call (.Name "set" p2) [a] [] pos2] X.env = (false, eval (.Call (.Name "set" p2) [a] [] pos2) X.env) :: starEach [] X.env := by rfl) :
    DE S X (.Call (.Name "sorted" p) [.Call (.Name "set" p2) [a] [] pos2] [] pos) (wSSet Ta) := ⟨fun W tk => by
  obtain ⟨t, pa, q⟩ := ha.run W tk
  refine ⟨_, pe_callB (cr_sortedT hc) hg hm (by decide +kernel) (pa_cons (pe_callTy (cr_setOfT hc hu) hg2 hm2 (by decide +kernel) (pa_cons pa pa_nil he) (by decide) (by decide) he rfl) pa_nil he2) (by decide) (by decide) he2 rfl, fun Z env σ H Q E Q' R hT k x => ?_⟩
  refine q Z env σ H _ E _ R hT (fun Z1 env1 v d H1 R1 t1 r1 h1 => ?_) x
  obtain ⟨ks, n, B, rfl, hl, hn, hb, h1⟩ := h1
  obtain ⟨g, vs, rfl, eg, rl⟩ := r1.lst
  obtain ⟨kk, rfl, e2, hkk⟩ := tups_of rl
  have hkk1 : ∀ p ∈ kk, SqT X.K H1 p.1 (p.2.map V.int) := fun p hp => by rw [hK]; exact sqT_vis (hkk p hp)
  refine ⟨g, kk, rfl, SqL.of eg, hkk1, by rw [← e2, List.length_map] at hl; exact hl, fun a L na l1 l2 => ?_⟩
  have sm := same_upd (o := SetTO X.prog X.w a L) na
  refine ⟨a, L, n, B, rfl, upd_same, fun p hp => sqT_same sm (hkk1 p (l1 p hp)), hn, fun p hp => ?_, fun L' p pm nd hl' pw hp => ?_⟩
  · have := hb p.2 (by rw [← e2]; exact List.mem_map_of_mem (l1 p hp))
    exact ⟨this.1, this.2⟩
  · have R2 := R1.grow sm
    have sm2 := same_upd (o := HO.lst (L'.map fun q => V.ref q.1)) hp
    have t2 : Tr Z1 H1 Z1 (upd H1 a (SetTO X.prog X.w a L)) := .alloc sm
    have hL' : ∀ q ∈ L', SqT S.G.K (vis Z1.O (upd H1 a (SetTO X.prog X.w a L))) q.1 (q.2.map V.int) := fun q hq => sqT_same (same_vis sm) (hkk q (l1 q (pm.subset hq)))
    refine k Z1 env1 _ (.lst ((L'.map (·.2)).map dT)) _ (R2.grow sm2) (Tr.trans R1 t1 (Tr.trans R2 t2 (.alloc sm2))) (new_lst R2.oin hp (rep_tups hL')) (h1 _ (fun m => ?_) nd (by rw [List.length_map]; exact hl') ?_)
    · constructor
      · intro hm
        obtain ⟨q, hq, rfl⟩ := List.mem_map.mp hm
        rw [← e2]; exact List.mem_map_of_mem (l1 q (pm.subset hq))
      · intro hm
        rw [← e2] at hm
        obtain ⟨q, hq, rfl⟩ := List.mem_map.mp hm
        obtain ⟨q2, hq2, e3⟩ := List.mem_map.mp (l2 q hq)
        rw [← e3]
        exact List.mem_map_of_mem (pm.symm.subset hq2)
    · rw [List.pairwise_map]; exact pw⟩
/-! ### list(range(..)), tuple(range(..)) -/
section
variable {S : Ent} {X : Cx} {a b : Expr} {Ta Tb : Tm} {p p2 pos pos2 : Pos}
theorem rg_rep {G : Pg} {H : Hp} {hh : Option Addr} {i j : Int} : RepL G H hh (rgV i j) (rangeD i j) := by
  have e1 : rgV i j = (rangeI i j).map V.int := by unfold rgV rangeI; rw [List.map_map]; rfl
  rw [e1, rangeD_map]
  exact RepL.of_ints _
def rgB (i j : Int) : Prop := -1000000000 ≤ i ∧ i ≤ 10000000 ∧ -1000000000 ≤ j ∧ j ≤ 10000000 ∧ j - i ≤ 10000000
theorem rgB.ok {i j : Int} (h : rgB i j) : RgOk i j := by
  obtain ⟨h1, h2, h3, h4, h5⟩ := h
  exact ⟨by omega, by omega, by omega, by omega, by omega⟩
def wLstR1 (T : Tm) : Tf := fun env Q E => T env (fun d env1 => ∃ j, d = .int j ∧ rgB 0 j ∧ ∀ g, Q (.own g (rangeD 0 j)) env1) E
def wLstR2 (T T2 : Tm) : Tf := fun env Q E => T env (fun d env1 => T2 env1 (fun d2 env2 => ∃ i j, d = .int i ∧ d2 = .int j ∧ rgB i j ∧ ∀ g, Q (.own g (rangeD i j)) env2) E) E
def wTupR1 (T : Tm) : Tm := fun env Q E => T env (fun d env1 => ∃ j, d = .int j ∧ rgB 0 j ∧ Q (.tup (rangeD 0 j)) env1) E
theorem df_listR1 (hc : X.calm = true) (hm : X.mg "list" = none) (hm2 : X.mg "range" = none) (ha : DB S X a Ta) (hg : Gl X "list" := by rfl) (hg2 : Gl X "range" := by rfl) (he : starEach [a] X.env = (false, eval a X.env) :: starEach [] X.env := by rfl)
    (he2 : starEach [.Call (.Name "range" p2) [a] [] pos2] X.env = (false, eval (.Call (.Name "range" p2) [a] [] pos2) X.env) :: starEach [] X.env := by rfl) : DF S X (.Call (.Name "list" p) [.Call (.Name "range" p2) [a] [] pos2] [] pos) (wLstR1 Ta) := ⟨fun W tk => by
  obtain ⟨t, pa, q⟩ := ha.run W tk
  refine ⟨_, pe_listRg hc hg hm (prg_1 hg2 hm2 pa he) he2, fun Z env σ H Q E Q' R hT k x => ?_⟩
  refine q Z env σ H _ E _ R hT (fun Z1 env1 v d H1 R1 t1 r1 h1 => ?_) x
  obtain ⟨j, rfl, hb, h1⟩ := h1
  refine ⟨j, r1.int, hb.ok, fun l hl => ?_⟩
  obtain ⟨R2, t2, no, h0, hh, hn⟩ := R1.hide (o := .lst (rgV 0 j)) hl
  exact k _ env1 l (.own l _) _ R2 (Tr.trans R1 t1 t2) ⟨List.mem_cons_self, hh, h0, no⟩ (fun hb => hn (R1.res l hb).ino) rfl ⟨rfl, _, upd_same, rg_rep⟩ (h1 l)⟩
theorem df_listR2 (hc : X.calm = true) (hm : X.mg "list" = none) (hm2 : X.mg "range" = none) (ha : DB S X a Ta) (hb : DB S X b Tb) (hg : Gl X "list" := by rfl) (hg2 : Gl X "range" := by rfl) (he : starEach [a, b] X.env = (false, eval a X.env) :: starEach [b] X.env := by rfl) (heb : starEach [b] X.env = (false, eval b X.env) :: starEach [] X.env := by rfl) (hpl : (backTo pos2 (starEach [b] X.env)).any (·.1) = false := by rfl)
    (he2 : starEach [.Call (.Name "range" p2) [a, b] [] pos2] X.env = (false, eval (.Call (.Name "range" p2) [a, b] [] pos2) X.env) :: starEach [] X.env := by rfl) : DF S X (.Call (.Name "list" p) [.Call (.Name "range" p2) [a, b] [] pos2] [] pos) (wLstR2 Ta Tb) := ⟨fun W tk => by
  obtain ⟨t, pa, q⟩ := ha.run W tk
  obtain ⟨t', pb, q'⟩ := hb.run W tk
  refine ⟨_, pe_listRg hc hg hm (prg_2 hg2 hm2 pa pb he heb hpl) he2, fun Z env σ H Q E Q' R hT k x => ?_⟩
  refine q Z env σ H _ E _ R hT (fun Z1 env1 v d H1 R1 t1 r1 h1 => ?_) x
  refine q' Z1 env1 σ H1 _ E _ R1 h1 (fun Z2 env2 v2 d2 H2 R2 t2 r2 h2 => ?_) (x.on R1 t1)
  obtain ⟨i, j, rfl, rfl, hb, h1⟩ := h2
  refine ⟨i, j, r1.int, r2.int, hb.ok, fun l hl => ?_⟩
  obtain ⟨R3, t3, no, h0, hh, hn⟩ := R2.hide (o := .lst (rgV i j)) hl
  exact k _ env2 l (.own l _) _ R3 (Tr.trans R1 t1 (Tr.trans R2 t2 t3)) ⟨List.mem_cons_self, hh, h0, no⟩ (fun hb => hn (R2.res l hb).ino) rfl ⟨rfl, _, upd_same, rg_rep⟩ (h1 l)⟩
theorem dx_tupR1 (hc : X.calm = true) (hm : X.mg "tuple" = none) (hm2 : X.mg "range" = none) (ha : DB S X a Ta) (hg : Gl X "tuple" := by rfl) (hg2 : Gl X "range" := by rfl) (he : starEach [a] X.env = (false, eval a X.env) :: starEach [] X.env := by rfl)
    (he2 : starEach [.Call (.Name "range" p2) [a] [] pos2] X.env = (false, eval (.Call (.Name "range" p2) [a] [] pos2) X.env) :: starEach [] X.env := by rfl) : DE S X (.Call (.Name "tuple" p) [.Call (.Name "range" p2) [a] [] pos2] [] pos) (wTupR1 Ta) := ⟨fun W tk => by
  obtain ⟨t, pa, q⟩ := ha.run W tk
  refine ⟨_, pe_tupRg hc hg hm (prg_1 hg2 hm2 pa he) he2, fun Z env σ H Q E Q' R hT k x => ?_⟩
  refine q Z env σ H _ E _ R hT (fun Z1 env1 v d H1 R1 t1 r1 h1 => ?_) x
  obtain ⟨j, rfl, hb, h1⟩ := h1
  refine ⟨j, r1.int, hb.ok, fun l hl => ?_⟩
  have sm := same_upd (o := HO.tup (rgV 0 j)) hl
  exact k Z1 env1 _ _ _ (R1.grow sm) (Tr.trans R1 t1 (.alloc sm)) (new_tup R1.oin hl rg_rep) h1⟩
end
end DV

set_option Elab.async false
set_option linter.all false
set_option maxRecDepth 100000
/-! DV17: any(a tuple of ints). -/
namespace DV
open PySem PySem.Spec PyProof.Rows L2
theorem iter_anyT {prog : Program} {w : World} {A : Around} {E : Value → Shared → Prop} {s : Shared} {l : Addr} {items : Array Value} {Q : Value → Shared → Prop} (hl : s.heap.IsTuple l items)
    (h : ∀ s₂ : Shared, s₂ = { s with heap := s.heap.push { cls := .type "tuple_iterator", data := .fields #[.ref l, .int 0 0] } } →
      (s₂.heap.IsTupleIter s.heap.objs.size l 0 ∧ s₂.heap.IsTuple l items) → l ≠ s.heap.objs.size → Q (.ref s.heap.objs.size) s₂) : wpAny (model prog w) A (pyIter (.ref l)) Q E s := by
  have hlt : l < s.heap.objs.size := by obtain ⟨_, e, _⟩ := hl; exact Heap.lt_size e
  exact wpAny_pyIter_tuple hl (h _ rfl ⟨⟨_, Heap.get?_push_size _ rfl, rfl, rfl⟩, hl.at fun o e => Heap.get?_push_of_some _ e⟩ (Nat.ne_of_lt hlt))
theorem truth_int {prog : Program} {w : World} {A : Around} {E : Value → Shared → Prop} {s : Shared} {i : Int} {t : Tok} {Q : Bool → Shared → Prop} (h : Q (i != 0) s) : wpAny (model prog w) A (truthy (.int i t)) Q E s := PySem.P.truthy_int h
theorem ints_get : ∀ {ns : List Int} {us : List Value}, IntsAre us ns → ∀ {i : Nat} {v : Value}, us[i]? = some v → ∃ (n : Int) (t : Tok), ns[i]? = some n ∧ v = .int n t
  | _, _, .cons n k r, 0, v, e => by cases e; exact ⟨n, k, rfl, rfl⟩
  | _, _, .cons n k r, i + 1, v, e => by simpa using ints_get r (by simpa using e)
theorem any_ints : ∀ ns : List Int, (List.range ns.length).any (fun i => ns.getD i 0 != 0) = ns.any (· != 0)
  | [] => rfl
  | b :: bs => by
    rw [List.length_cons, List.range_succ_eq_map, List.any_cons, List.any_map, List.any_cons, ← any_ints bs]
    all_goals rfl
def rAnyTI (K : PySem.W.Frag) : List V → Hp → VK → Prop := fun vs H Q => ∃ (a : Addr) (ns : List Int), vs = [V.ref a] ∧ SqT K H a (ns.map V.int) ∧ Q (.bl (ns.any (· != 0))) H
theorem cr_anyTI {X : Cx} (hc : X.calm = true) : CallR X (.builtin "any") (rAnyTI X.K) := by
  intro pins s σ H vs us Q I r h
  obtain ⟨a, ns, rfl, hs, q⟩ := h
  obtain ⟨its, rv, hl, _⟩ := I.tuple hs
  rw [Vals.ref1 r]
  have hb := rv.ints
  refine call_any_walk (iter_anyT (show s.heap.IsTuple a its.toArray from hl) fun s₂ e2 st hne => ?_)
  subst e2
  refine ⟨_, _, _, _, _, _, fun i => ns.getD i 0 != 0, rfl, Walks.tuple (A := X.A.in1) (I.ok.hd hc) _ a hne its.toArray, st, fun i v s Q E hv hq => ?_, fun h' tk hk => ?_⟩
  · obtain ⟨n, t, e1, rfl⟩ := ints_get hb (i := i) (v := v) (by simpa using hv)
    have hg : ns.getD i 0 = n := by rw [List.getD_eq_getElem?_getD, e1] <;> rfl
    have hq' : Q (ns.getD i 0 != 0) s := hq
    rw [hg] at hq'
    exact truth_int hq'
  refine ⟨.bl _, H, I.kept fun b o eo => hk b o (fun hmem => ?_) (Heap.get?_push_of_some _ eo), ?_, q⟩
  · rcases List.mem_cons.mp hmem with e1 | hmem
    · exact absurd (e1 ▸ Heap.lt_size eo) (Nat.lt_irrefl _)
    · cases hmem
  · show Value.bool _ = Value.bool _
    have hlen : its.length = ns.length := by rw [← rv.length, List.length_map]
    rw [← any_ints, List.size_toArray, hlen]
def gAnyX : GL := fun ds Q => match ds with
  | [.lst xs] => ∃ bs, toBs xs = some bs ∧ Q (.bl (bs.any id))
  | [.tup xs] => ∃ ns, toIs xs = some ns ∧ Q (.bl (ns.any (· != 0)))
  | _ => False
theorem cd_anyX {S : Ent} {X : Cx} (hK : X.K = S.G.K) (hc : X.calm = true) : CallD S X (.builtin "any") gAnyX := by
  refine ⟨_, (cr_any hc).or (cr_anyTI hc), fun Z H vs ds Qd Q' hl hr hg k oin => ?_⟩
  unfold gAnyX at hg
  split at hg
  · obtain ⟨bs, h1, h2⟩ := hg
    obtain ⟨v, rfl, r⟩ := one_of hl hr
    obtain ⟨p, ws, rfl, ep, rp⟩ := r.lst
    rw [toBs_eq h1] at rp
    rw [rp.bls] at ep
    exact .inl ⟨p, bs, rfl, SqL.of ep, k _ _ _ Same.rfl' (.bl _) h2⟩
  · obtain ⟨ns, h1, h2⟩ := hg
    obtain ⟨v, rfl, r⟩ := one_of hl hr
    obtain ⟨p, ws, rfl, ep, rp⟩ := r.tup
    rw [toIs_eq h1] at rp
    rw [rp.ints, ← hK] at ep
    exact .inr ⟨p, ns, rfl, ep, k _ _ _ Same.rfl' (.bl _) h2⟩
  · exact hg.elim
/-! ### sum(a tuple of ints) -/
theorem preSumD (l : List Int) : ∀ j, preSum (fun i => l.getD i 0) j = (l.take j).sum
  | 0 => rfl
  | j + 1 => by
    rw [preSum, preSumD l j]
    by_cases h : j < l.length
    · rw [List.take_succ_eq_append_getElem h, List.sum_append, List.getD_eq_getElem?_getD, List.getElem?_eq_getElem h]
      simp
    · rw [List.take_of_length_le (by omega), List.take_of_length_le (by omega), List.getD_eq_getElem?_getD, List.getElem?_eq_none (by omega)]
      simp
def rSumT (K : PySem.W.Frag) : List V → Hp → VK → Prop := fun vs H Q => ∃ (a : Addr) (ns : List Int), vs = [V.ref a] ∧ SqT K H a (ns.map V.int) ∧ Q (.int ns.sum) H
theorem cr_sumT {X : Cx} (hc : X.calm = true) : CallR X (.builtin "sum") (rSumT X.K) := by
  intro pins s σ H vs us Q I r h
  obtain ⟨a, ns, rfl, hs, q⟩ := h
  obtain ⟨its, rv, hl, _⟩ := I.tuple hs
  rw [Vals.ref1 r]
  have hb := rv.ints
  have hlen : its.length = ns.length := by rw [← rv.length, List.length_map]
  refine call_sum_walkG (iter_anyT (show s.heap.IsTuple a its.toArray from hl) fun s₂ e2 st hne => ?_)
  subst e2
  obtain ⟨o1, ho1, _⟩ := id hl
  refine ⟨_, _, _, _, _, _, fun i => ns.getD i 0, rfl, Walks.tuple (A := X.A.in1) (I.ok.hd hc) _ a hne its.toArray, st, fun b hb => ?_, fun i v hv => ?_, fun h' tk t' hk => ?_⟩
  · have hs2 : (s.heap.push { cls := .type "tuple_iterator", data := .fields #[.ref a, .int 0 0] }).objs.size = s.heap.objs.size + 1 := Heap.size_push ..
    show b < (s.heap.push { cls := .type "tuple_iterator", data := .fields #[.ref a, .int 0 0] }).objs.size
    rw [hs2]
    have := Heap.lt_size ho1
    simp at hb
    rcases hb with rfl | rfl
    · exact Nat.lt_succ_self _
    · exact Nat.lt_succ_of_lt this
  · obtain ⟨n, t, e1, rfl⟩ := ints_get hb (i := i) (v := v) (by simpa using hv)
    have hg : ns.getD i 0 = n := by rw [List.getD_eq_getElem?_getD, e1] <;> rfl
    exact ⟨t, by show Value.int n t = Value.int (ns.getD i 0) t; rw [hg]⟩
  refine ⟨.int _, H, I.kept fun b o eo => hk b o (fun hmem => ?_) (Heap.get?_push_of_some _ eo), ⟨_, rfl⟩, ?_⟩
  · rcases List.mem_cons.mp hmem with e1 | hmem
    · exact absurd (e1 ▸ Heap.lt_size eo) (Nat.lt_irrefl _)
    · cases hmem
  · rw [preSumD, List.size_toArray, hlen, List.take_of_length_le (Nat.le_refl _)]
    exact q
def gSumX : GL := fun ds Q => match ds with
  | [.lst xs] => ∃ ns, toIs xs = some ns ∧ Q (.int ns.sum)
  | [.tup xs] => ∃ ns, toIs xs = some ns ∧ Q (.int ns.sum)
  | _ => False
theorem cd_sumX {S : Ent} {X : Cx} (hK : X.K = S.G.K) (hc : X.calm = true) : CallD S X (.builtin "sum") gSumX := by
  refine ⟨_, (cr_sum hc).or (cr_sumT hc), fun Z H vs ds Qd Q' hl hr hg k oin => ?_⟩
  unfold gSumX at hg
  split at hg
  · obtain ⟨bs, h1, h2⟩ := hg
    obtain ⟨v, rfl, r⟩ := one_of hl hr
    obtain ⟨p, ws, rfl, ep, rp⟩ := r.lst
    rw [toIs_eq h1] at rp
    rw [rp.ints] at ep
    exact .inl ⟨p, bs, rfl, SqL.of ep, k _ _ _ Same.rfl' (.int _) h2⟩
  · obtain ⟨ns, h1, h2⟩ := hg
    obtain ⟨v, rfl, r⟩ := one_of hl hr
    obtain ⟨p, ws, rfl, ep, rp⟩ := r.tup
    rw [toIs_eq h1] at rp
    rw [rp.ints, ← hK] at ep
    exact .inr ⟨p, ns, rfl, ep, k _ _ _ Same.rfl' (.int _) h2⟩
  · exact hg.elim
end DV

set_option Elab.async false
set_option linter.all false
set_option maxRecDepth 100000
/-! DV18: a + b of lists, a list of one's own. -/
namespace DV
open PySem PySem.Spec PyProof.Rows L2
def wCatF (Ta Tb : Tm) : Tf := fun env Q E => Ta env (fun x env1 => Tb env1 (fun y env2 => ∃ xs ys, x = .lst xs ∧ y = .lst ys ∧ xs.length + ys.length ≤ big ∧ ∀ p, Q (.own p (xs ++ ys)) env2) E) E
theorem df_cat {S : Ent} {X : Cx} {a b : Expr} {pos : Pos} {Ta Tb : Tm} (ha : DB S X a Ta) (hb : DB S X b Tb) : DF S X (.BinOp a .Add b pos) (wCatF Ta Tb) := ⟨fun W tk => by
  obtain ⟨ta, pa, ra⟩ := ha.run W tk
  obtain ⟨tb, pb, rb⟩ := hb.run W tk
  refine ⟨_, pe_op op_cat pa pb, fun Z env σ H Q E Q' R hT k x => ?_⟩
  refine ra Z env σ H _ E _ R hT (fun Z1 env1 v1 d1 H1 R1 t1 r1 h1 => ?_) x
  refine rb Z1 env1 σ H1 _ E _ R1 h1 (fun Z2 env2 v2 d2 H2 R2 t2 r2 h2 => ?_) (x.on R1 t1)
  obtain ⟨xs, ys, rfl, rfl, g2, h2⟩ := h2
  have t12 := Tr.trans R1 t1 t2
  obtain ⟨g, vs, rfl, ea, rl⟩ := (r1.on R1 t2).lst
  obtain ⟨g', ws, rfl, eb, rl'⟩ := r2.lst
  refine ⟨g, g', vs, ws, rfl, rfl, ea, eb, by rw [rl.length, rl'.length]; exact big_line g2, fun p hp => ?_⟩
  obtain ⟨R3, t3, no, h0, hh, hn⟩ := R2.hide (o := .lst (vs ++ ws)) hp
  refine k _ env2 p (.own p _) _ R3 (Tr.trans R2 t12 t3) ⟨List.mem_cons_self, hh, h0, no⟩ (fun hb => hn (R2.res p hb).ino) rfl ⟨rfl, _, upd_same, ?_⟩ (h2 p)
  exact (R2.vle t3).repL (rl.append rl')⟩
end DV

set_option Elab.async false
set_option linter.all false
set_option maxRecDepth 100000
/-! DV19: defs as values, called by a local name; law itself with lambdas. -/
namespace DV
open PySem PySem.Spec PyProof.Rows L2
theorem pe_callV {X : Cx} {CX : CXT} {k i : Nat} {E : L2.St → XK} {x : Str} {p pos : Pos} {e : Expr} {es : List Expr} {t : TA} (hr : Room k X.A) (hN : X.N[i]? = some x) (hv : Vis X.env.scope x) (hx : ∀ σ, PassesAt CX X σ (E σ)) (ha : PA X (e :: es) t)
    (hdb : (x == ("__debug__" : Str)) = false := by decide) (hcd : (x == ("__classdict__" : Str)) = false := by decide)
    (he : starEach (e :: es) X.env = (false, eval e X.env) :: starEach es X.env := by rfl) (hpl : (backTo pos (starEach es X.env)).any (·.1) = false := by rfl) :
    PE X (.Call (.Name x p) (e :: es) [] pos) (fun σ H Q => ∃ (f : Addr) (fd : FuncData) (ps : List Str) (sp : Sp), FnOk X.prog X.w X.K X.mg X.base CX k f fd ps sp ∧ PySem.W.keepIn X.K (.ref f) = true ∧ Binds X.K fd ps [] ∧ σ[i]? = some (some (.ref f)) ∧ t σ H fun vs H1 => sp vs H1 Q (E σ)) := by
  refine ⟨fun pins s σ H Q I h => ?_⟩
  obtain ⟨f, fd, ps, sp, F, hk, hb, hs, ht⟩ := h
  refine wpAny_Call_Name_kw (thn ((pe_var (pos := p) hN hv hdb hcd).run pins s σ H (fun v H1 => v = .ref f ∧ H1 = H) I ⟨.ref f, hs, rfl, rfl⟩) fun u s1 ⟨v, H1, I1, r1, q1⟩ => ?_)
  obtain ⟨rfl, rfl⟩ := q1
  cases r1
  refine PySem.W.callWith_K (h₀ := X.base) I.ok.mod.kin hk (thn (ha.run pos pins s1 σ _ _ I1 ht) fun us s2 ⟨vs, H2, I2, r, q⟩ => ⟨I2.kIn, ?_⟩) he hpl
  exact run_fnS F hr hb (hx σ) I2 r q
section
variable {S : Ent} {X : Cx} {x : Str} {p pos : Pos} {e : Expr} {es : List Expr} {T : TmL}
/-- a def's name as a value -/
theorem dx_fnv (hFT : ∀ y f, S.G.FT y = some f → X.mg y = some (.ref f)) (hx : ∃ f, S.G.FT x = some f) (hg : Gl X x := by rfl) (hdb : (x == ("__debug__" : Str)) = false := by decide) : DE S X (.Name x p) (wC (.fn x)) := ⟨fun W tk => by
  obtain ⟨f, ef⟩ := hx
  exact ⟨_, pe_glob (v := .ref f) hg (hFT _ _ ef) rfl hdb, fun Z env σ H Q E Q' R hT k x => k Z env _ _ H R .refl (.fn ef) hT⟩⟩
/-- y(..), the local y one of the defs -/
def wCallV (i n : Nat) (FF : List (Str × Fn)) (T : TmL) : Tm := fun env Q E => ∃ x F, env[i]? = some (.val (.fn x)) ∧ (x, F) ∈ FF ∧ T env (fun ds env1 => ds.length = n ∧ F ds (fun d => Q d env1) (fun er => E er env1)) E
theorem dx_callV (i : Nat) {n k : Nat} {FF : List (Str × Fn)} (C : ∀ q ∈ FF, Cal X.prog X.w S.G X.mg X.base q.1 k n q.2) (hFT : ∀ y f, S.G.FT y = some f → X.mg y = some (.ref f)) (hK : X.K = S.G.K) (hr : Room k X.A) (ha : DA S RS X (e :: es) T) (hN : X.N[i]? = some x := by rfl) (hv : Vis X.env.scope x := by first | exact Or.inl rfl | exact Or.inr (Or.inl rfl) | exact Or.inr (Or.inr rfl))
    (hdb : (x == ("__debug__" : Str)) = false := by decide) (hcd : (x == ("__classdict__" : Str)) = false := by decide)
    (he : starEach (e :: es) X.env = (false, eval e X.env) :: starEach es X.env := by rfl) (hpl : (backTo pos (starEach es X.env)).any (·.1) = false := by rfl) : DE S X (.Call (.Name x p) (e :: es) [] pos) (wCallV i n FF T) := ⟨fun W tk => by
  obtain ⟨ta, pa, ra⟩ := ha.run W tk
  refine ⟨_, pe_callV hr hN hv (fun σ => passAt tk σ) pa hdb hcd he hpl, fun Z env σ H Q E Q' R hT kk x => ?_⟩
  obtain ⟨y, F, ey, hm, hT⟩ := hT
  obtain ⟨f, fd, ps, h1, h2, h3, h4⟩ := (C _ hm).ex
  rw [← hK] at h2 h3
  have h4' : FnOk X.prog X.w X.K X.mg X.base (L2.CX X.prog X.w) k f fd ps (spD S.G n F) := by rw [hK]; exact h4
  obtain ⟨v, es, r⟩ := R.slots i _ ey
  have ev : v = .ref f := by
    cases r with
    | fn e =>
      have := hFT _ _ e
      rw [show X.mg y = some (.ref f) from h1] at this
      cases this
      rfl
  subst ev
  refine ⟨f, fd, ps, _, h4', h2, h3, es, ?_⟩
  exact ra Z env σ H _ E _ R hT (fun Z1 env1 vs ds H1 R1 t1 hl r1 h1 => call_end R1 t1 (R.vle t1) hl r1 h1.1 h1.2 kk x) x⟩
end
/-! ### law, with its code's place -/
theorem law_fnC {P : Program} {w : World} {G : Pg} {mg : Str → Option Value} {base : Heap} {x qual : Str} {st : Stmt} {f c : Addr} {fd : FuncData} {N ps : List Str} {k : Nat} {B : Ts} {st0 : Stmt} {rest : List Stmt} (F : FunC G.K x qual st f fd c) (Sc : FnScope N ps (defScope st)) (hn : 1 = ps.length) (hN : 2 ≤ N.length) (hst : defBody st = st0 :: rest)
    (h0 : ∀ (A : Around) (outer : List PySem.Env) (s : Shared) (H : Hp) (E : XK), Room k (A.deeper (envOfC qual (defScope st) s.heap.objs.size f (.ref c))) →
      PS (cxOf (L2.CX P w) P w G.K mg base N qual (defScope st) f (.ref c) A outer s H E) st0 (tAsg (tCallS (handSp G) (fun _ _ _ _ => False) (tCons (tVar 0) tNil)) (gName 1)))
    (hbody : ∀ (A : Around) (outer : List PySem.Env) (s : Shared) (H : Hp) (E : XK) (S : Ent), S.G = G → Room k (A.deeper (envOfC qual (defScope st) s.heap.objs.size f (.ref c))) →
      DSs S (cxOf (L2.CX P w) P w G.K mg base N qual (defScope st) f (.ref c) A outer s H E) rest B)
    (hB : B (.no :: .val .hand :: List.replicate (N.length - 2) .no) { nx := fun _ => False, rt := fun d _ => d = .bl true, bk := fun _ => False, ct := fun _ => False, ex := fun _ _ => False }) :
    FnOk P w G.K mg base (L2.CX P w) (k + 1) f fd ps (lawSp G) := by
  obtain ⟨oc, od, kV, doc, pm, an, ct, osl, rfl, lk, hcd⟩ := F.ex
  refine fn_of lk hcd Sc (fun vs H Q E h => ?_) fun A outer s H vs Q E hr h => ?_
  · obtain ⟨_, _, rfl, _⟩ := h
    exact hn
  · obtain ⟨a, ns, rfl, sq, hl, tt, kq⟩ := h
    let T : TS := fun D' σ H' => ∃ S : Ent, ∃ Z env, S.G = G ∧ Rel S Z env σ H' ∧ B env { nx := fun _ => False, rt := fun d _ => d = .bl true, bk := fun _ => False, ct := fun _ => False, ex := fun _ _ => False } ∧ ∀ H', D'.rt (.bl true) H'
    have pr : PSs (cxOf (L2.CX P w) P w G.K mg base N qual (defScope st) f (.ref c) A outer s H E) rest T := ⟨fun pins s1 σ H1 D' I hh => by
      obtain ⟨S, Z, env, eG, R, hb, kk⟩ := hh
      obtain ⟨t, pp, q⟩ := (hbody A outer s H E S eG hr).run (fun cls d _ H => E cls d H) (takes_of rfl rfl rfl rfl) PassesOwn.leaving
      exact pp.run pins s1 σ H1 D' I (q Z env σ H1 _ D' R hb ⟨fun _ _ _ _ _ _ h => h.elim, fun Z' e σ' v d H' R' vl rv h => by subst h; cases rv; exact kk H', fun _ _ _ _ _ _ h => h.elim, fun _ _ _ _ _ _ h => h.elim, fun _ _ _ _ _ _ _ _ _ _ h => h.elim, fun _ _ _ _ _ _ _ _ _ _ _ h => h.elim⟩)⟩
    rw [hst]
    refine ⟨_, pss_cons (h0 A outer s H E hr) pr, ?_⟩
    refine ⟨.ref a, ?_, a, ns, rfl, sq, hl, tt, fun p H' tt' ho => ?_⟩
    · unfold L2.start
      rfl
    · refine ⟨⟨G, ⟨[p], some p, []⟩, H'⟩, ⟨[p], some p, []⟩, _, rfl, ?_, hB, kq⟩
      have hpn : H' p ≠ none := by
        obtain ⟨_, _, _, _, _, _, _, e, _⟩ := ho
        rw [e]; simp
      refine ⟨fun b hb => by rw [List.mem_singleton.mp hb]; exact hpn, fun _ h => h, fun b hb => by cases hb; exact ho, rfl, fun b o e _ => .of e, fun b hb => by rw [List.mem_singleton.mp hb]; exact hpn, fun b hb => .inl hb, ?_, fun i y e => ?_, fun i j y z b ey ez oy oz _ _ => ?_, fun b hb => absurd hb (by simp), tt', fun b hb => .inl hb⟩
      · unfold L2.start
        simp
        omega
      · match i with
        | 0 => cases e; trivial
        | 1 =>
          cases e
          refine ⟨.ref p, ?_, .hand rfl⟩
          rw [List.getElem?_set_self]
          unfold L2.start
          simp
          omega
        | i + 2 =>
          rw [List.getElem?_cons_succ, List.getElem?_cons_succ, List.getElem?_replicate] at e
          split at e
          · cases e; trivial
          · cases e
      · match i with
        | 0 => cases ey; cases oy
        | 1 => cases ey; cases oy
        | i + 2 =>
          rw [List.getElem?_cons_succ, List.getElem?_cons_succ, List.getElem?_replicate] at ey
          split at ey
          · cases ey; cases oy
          · cases ey
end DV

set_option Elab.async false
set_option linter.all false
set_option maxRecDepth 100000
/-! DV20: xs[::-1] of tuples. -/
namespace DV
open PySem PySem.Spec PyProof.Rows L2
section
variable {prog : Program} {w : World} {A : Around} {E : Value → Shared → Prop} {s : Shared}
theorem adjust_back (n : Nat) : Builtin.Slice.sliceAdjust none none (-1) (n : Int) = ((n : Int) - 1, -1) := by
  unfold Builtin.Slice.sliceAdjust
  simp
theorem places_back (n : Nat) : Builtin.Slice.slicePlaces ((n : Int) - 1) (-1) (-1) = n := by
  unfold Builtin.Slice.slicePlaces
  have h1 : ¬ ((-1 : Int) > 0) := by omega
  simp only [h1, if_false]
  split
  · rw [show (- (-1) : Int) = 1 by omega, Int.ediv_one]
    omega
  · omega
theorem fm_congr {α β : Type} {f g : α → Option β} : ∀ {l : List α}, (∀ x ∈ l, f x = g x) → l.filterMap f = l.filterMap g
  | [], _ => rfl
  | x :: l, h => by
    rw [List.filterMap_cons, List.filterMap_cons, h x List.mem_cons_self, fm_congr fun y hy => h y (List.mem_cons_of_mem _ hy)]
theorem pick_back (xs : Array Value) : ((List.range xs.size).filterMap fun (m : Nat) => xs[(((xs.size : Int) - 1) + (m : Int) * (-1)).toNat]?).toArray = xs.toList.reverse.toArray := by
  have e : ((List.range xs.size).filterMap fun (m : Nat) => xs[(((xs.size : Int) - 1) + (m : Int) * (-1)).toNat]?) = ((List.range xs.size).map fun k => xs.size - 1 - k).filterMap (xs[·]?) := by
    rw [List.filterMap_map]
    refine fm_congr fun m hm => ?_
    have := List.mem_range.mp hm
    show xs[_]? = xs[xs.size - 1 - m]?
    congr 1
    omega
  rw [e, PySem.W.krv_range, List.filterMap_reverse, PySem.W.krv_all]
theorem sliceApplied_back {sl : Addr} {vl vu vs : Value} {n : Nat} {Q : Int × Int × Nat → Shared → Prop} (hs : s.heap.IsSliceOf sl vl vu vs) (pl : IsPart vl none) (pu : IsPart vu none) (ps : IsPart vs (some (-1)))
    (h : Q ((n : Int) - 1, -1, n) s) : wpAny (model prog w) A (Builtin.Slice.sliceApplied (.ref sl) (pure (n : Int))) Q E s := by
  obtain ⟨os, hos, hcs, hds⟩ := id hs
  unfold Builtin.Slice.sliceApplied Builtin.Slice.sliceFields
  refine wpAny_bind (wpAny_bind (wpAny_field hos hds (x := vl) rfl (wpAny_bind (wpAny_field hos hds (x := vu) rfl (wpAny_bind (wpAny_field hos hds (x := vs) rfl (wpAny_pure ?_)))))))
  refine wpAny_bind (HT.slicePart_ ps ?_)
  show wpAny _ _ (if ((-1 : Int) == 0) = true then _ else _) _ _ s
  rw [if_neg (by decide)]
  refine wpAny_bind (HT.slicePart_ pl (wpAny_bind (HT.slicePart_ pu (wpAny_bind (wpAny_pure ?_)))))
  show wpAny _ _ (match Builtin.Slice.sliceAdjust none none (-1) (n : Int) with | (lo, hi) => pure (lo, (-1 : Int), Builtin.Slice.slicePlaces lo hi (-1))) _ _ s
  rw [adjust_back n]
  show wpAny _ _ (pure ((n : Int) - 1, (-1 : Int), Builtin.Slice.slicePlaces ((n : Int) - 1) (-1) (-1))) _ _ s
  rw [places_back]
  exact wpAny_pure h
theorem getItem_tuple_back {t sl : Addr} {items : Array Value} {vl vu vs : Value} {Q : Value → Shared → Prop} (ht : IsTup s.heap t items) (hs : s.heap.IsSliceOf sl vl vu vs) (pl : IsPart vl none) (pu : IsPart vu none) (ps : IsPart vs (some (-1)))
    (h : Q (.ref s.heap.objs.size) { s with heap := s.heap.push { cls := .type "tuple", data := .seq items.toList.reverse.toArray } })
    (hsz : items.size ≤ sizeLine) : wpAny (model prog w) A (getItem (.ref t) (.ref sl)) Q E s := by
  have htake : sizeOk (.seq items.toList.reverse.toArray) := by
    show items.toList.reverse.toArray.size ≤ sizeLine
    rw [List.size_toArray, List.length_reverse, Array.length_toList]
    exact hsz
  obtain ⟨os, hos, hcs, hds⟩ := id hs
  have hTs : s.TypeIs (.ref sl) "slice" := ⟨os, hos, hcs⟩
  unfold getItem
  try with_reducible refine wpAny_holding ?_
  first | refine wpAny_bind (wpAny_pure ?_) | skip
  refine wpAny_bind (wpAny_sequenceKey ht.typeIs (by decide) ?_)
  refine wpAny_bind (wpAny_callSpecial?_slot (name := Str.ofString "__getitem__") ht.typeIs PyProof.Rows.slot_tuple_getitem
    (wpAny_call_entry PyProof.Rows.slot_tuple_getitem ht.typeIs entry_tuple_getitem ?_ (args_tuple_getitem _ _)))
  show wpAny _ _ (Builtin.Tuple.tupleItemsOf (.ref t) >>= _) _ _ s
  refine wpAny_bind (tupleItemsOf_ ht ?_)
  refine wpAny_bind (wpAny_typeOf hTs ?_)
  rw [if_pos (by decide)]
  refine wpAny_bind (sliceApplied_back (n := items.size) hs pl pu ps ?_)
  have hno : ¬ ((((items.size : Int) - 1) == 0 && (-1 : Int) == 1 && items.size == items.size) = true) := by
    intro q
    rw [Bool.and_eq_true, Bool.and_eq_true] at q
    exact absurd q.1.2 (by decide)
  show wpAny _ _ (if (((items.size : Int) - 1) == 0 && (-1 : Int) == 1 && items.size == items.size) = true then _ else _) _ _ s
  rw [if_neg hno, pick_back]
  first
    | exact wpAny_bind (m := Builtin.Tuple.tupleExact _) (wpAny_newObj_type (wpAny_pure ⟨_, rfl, wpAny_pure h⟩) htake)
    | exact wpAny_bind (m := Builtin.Tuple.tupleExact _) (wpAny_newObj_type (wpAny_bind (wpAny_pure (wpAny_pure ⟨_, rfl, wpAny_pure h⟩))) htake)
    | exact wpAny_bind (wpAny_bind (m := Builtin.Tuple.tupleExact _) (wpAny_newObj_type (wpAny_pure (wpAny_pure ⟨_, rfl, wpAny_pure h⟩)) htake))
    | exact wpAny_bind (wpAny_bind (m := Builtin.Tuple.tupleExact _) (wpAny_newObj_type (wpAny_pure ⟨_, rfl, wpAny_pure h⟩) htake))
end
section
variable {X : Cx}
def tRevT (K : PySem.W.Frag) (te : TE) : TE := fun σ H Q => te σ H fun x H1 => ∃ a xs, x = .ref a ∧ ((SqT K H1 a xs ∧ ∀ p, H1 p = none → Q (.ref p) (upd H1 p (.tup xs.reverse))) ∨ (SqL K H1 a xs ∧ ∀ p, H1 p = none → Q (.ref p) (upd H1 p (.lst xs.reverse))))
theorem pe_revT {e : Expr} {te : TE} {k : Nat} {p1 p2 p3 pos : Pos} (he : PE X e te) : PE X (.Subscript e (.Slice none none (some (.UnaryOp .USub (.Constant (.int 1) k p1) p2)) p3) pos) (tRevT X.K te) := by
  refine ⟨fun pins s σ H Q I h => ?_⟩
  refine Subscript_ (thn (he.run pins s σ H _ I h) fun v s1 ⟨x, H1, I1, r1, q1⟩ => ?_)
  obtain ⟨a, xs, ex, q1⟩ := q1
  subst ex
  cases r1
  have hst : PO X (some (.UnaryOp .USub (.Constant (.int 1) k p1) p2)) (tPart (tUn (rU fun i => .int (-i)) (tC (.int 1)))) := po_some (pe_un un_neg pe_int)
  refine wpAny_Slice (thn (po_none.run pins s1 σ H1 (fun o H2 => o = none ∧ H2 = H1) I1 ⟨rfl, rfl⟩) fun vl s2 ⟨l, H2, I2, pl, el, e2⟩ => ?_)
  subst el e2
  refine thn (po_none.run pins s2 σ H2 (fun o H3 => o = none ∧ H3 = H2) I2 ⟨rfl, rfl⟩) fun vu s3 ⟨u, H3, I3, pu, eu, e3⟩ => ?_
  subst eu e3
  refine thn (hst.run pins s3 σ H3 (fun o H4 => o = some (-1) ∧ H4 = H3) I3 ⟨1, rfl, -1, rfl, rfl, rfl⟩) fun vs s4 ⟨o, H4, I4, ps, eo, e4⟩ => ?_
  subst eo e4
  have I5 : Inv X pins σ H4 { s4 with heap := s4.heap.push { cls := .type "slice", data := .fields #[vl, vu, vs] } } := I4.kept (t' := s4.toks) fun b ob q => Heap.get?_push_of_some _ q
  show wpAny (model X.prog X.w) X.A (subscriptTail e (.Slice none none (some (.UnaryOp .USub (.Constant (.int 1) k p1) p2)) p3) (.ref a) (.ref s4.heap.objs.size)) (EP X pins σ Q) X.xe { s4 with heap := s4.heap.push { cls := .type "slice", data := .fields #[vl, vu, vs] } }
  rcases q1 with ⟨hx, q⟩ | ⟨hx, q⟩
  · obtain ⟨its, r, ht, hz⟩ := I5.tuple hx
    have hlen : its.toArray.size = xs.length := by rw [List.size_toArray]; exact r.length.symm
    refine tail_any (ops := [.ref a, .ref s4.heap.objs.size]) ht.typeIs (PyProof.Rows.slot_tuple_getitem.lookup) ?_ (by with_unfolding_all rfl)
    refine getItem_tuple_back ht (Heap.IsSliceOf.new _ vl vu vs) pl pu ps ?_ (by rw [hlen]; exact hz)
    refine ⟨.ref _, _, I5.laid (t' := s4.toks) (o := .tup xs.reverse) (fun b ob q => Heap.get?_push_of_some _ q) (Nat.le_refl _) ?_, rfl, q _ (I5.hok.fresh (Nat.le_refl _))⟩
    exact ⟨by rw [List.length_reverse]; exact hz, _, r.reverse, IsTup.new _ _⟩
  · obtain ⟨its, r, ht, hz⟩ := I5.list hx
    have hlen := r.length
    refine tail_any (ops := [.ref a, .ref s4.heap.objs.size]) ht.isList.typeIs (PySem.slot_list_getitem.lookup) ?_ (by with_unfolding_all rfl)
    refine wpAny_getItem_list_slice ht.isList (Heap.IsSliceOf.new _ vl vu vs) pl pu ps (by decide) ?_ (by rw [List.size_toArray]; omega)
    rw [PySem.W.krv_pick]
    refine ⟨.ref _, _, I5.laid (t' := s4.toks) (o := .lst xs.reverse) (fun b ob q => Heap.get?_push_of_some _ q) (Nat.le_refl _) ?_, rfl, q _ (I5.hok.fresh (Nat.le_refl _))⟩
    exact ⟨by rw [List.length_reverse]; exact hz, _, 0, r.reverse, Heap.get?_push_size _ rfl⟩
end
section
variable {S : Ent} {X : Cx} {a : Expr} {pos : Pos} {Ta : Tm}
/-- of a list or of a tuple -/
def wRevX (T : Tm) : Tm := fun env Q E => T env (fun d env1 => match d with | .tup xs => Q (.tup xs.reverse) env1 | .lst xs => Q (.lst xs.reverse) env1 | _ => False) E
theorem dx_revT {k : Nat} {p1 p2 p3 : Pos} (hK : X.K = S.G.K) (ha : DB S X a Ta) : DE S X (.Subscript a (.Slice none none (some (.UnaryOp .USub (.Constant (.int 1) k p1) p2)) p3) pos) (wRevX Ta) := ⟨fun W tk => by
  obtain ⟨ta, pa, ra⟩ := ha.run W tk
  refine ⟨_, pe_revT pa, fun Z env σ H Q E Q' R hT k x => ?_⟩
  refine ra Z env σ H _ E _ R hT (fun Z1 env1 v d H1 R1 t1 r1 h1 => ?_) x
  split at h1
  · obtain ⟨p, vs, rfl, ep, rp⟩ := r1.tup
    rw [← hK] at ep
    exact ⟨p, vs, rfl, .inl ⟨ep, fun q hq => k Z1 env1 _ _ _ (R1.grow (same_upd hq)) (Tr.trans R1 t1 (.alloc (same_upd hq))) (new_tup R1.oin hq rp.rev) h1⟩⟩
  · obtain ⟨p, vs, rfl, ep, rp⟩ := r1.lst
    exact ⟨p, vs, rfl, .inr ⟨SqL.of ep, fun q hq => k Z1 env1 _ _ _ (R1.grow (same_upd hq)) (Tr.trans R1 t1 (.alloc (same_upd hq))) (new_lst R1.oin hq rp.rev) h1⟩⟩
  · exact h1.elim⟩
end
end DV

set_option Elab.async false
set_option linter.all false
set_option maxRecDepth 100000
set_option maxHeartbeats 2100000
/-! DV21: repr. A def's promise where no repr is under way (FnG), its call, its rule; law's end with it. -/
namespace DV
open PySem PySem.Spec PyProof.Rows L2
/-- a def's promise, asked where no repr is under way -/
structure FnG (P : Program) (w : World) (K : PySem.W.Frag) (mg : Str → Option Value) (base : Heap) (C : CXT) (k : Nat) (f : Addr) (fd : FuncData) (ps : List Str) (sp : Sp) : Prop where
  ln : ∀ vs H Q E, sp vs H Q E → vs.length = ps.length
  go : ∀ (A : Around) (ou : List PySem.Env) (s : Shared) (H : Hp) (ar : Args) (us : List Value) (vs : List V) (Q : VK) (E : XK), A.guards = some [] → Room k A → Env0 P w K mg base A ou s H → BindsTo s fd ar (ps.zip us) → Vals vs us → sp vs H Q E →
    codeAny (model P w) A (.call (.ref f) ar) (CR C ou P w H s Q E) s
theorem FnG.mono {P : Program} {w : World} {K : PySem.W.Frag} {mg : Str → Option Value} {base : Heap} {C : CXT} {j k : Nat} {f : Addr} {fd : FuncData} {ps : List Str} {sp : Sp} (F : FnG P w K mg base C j f fd ps sp) (l : j ≤ k) : FnG P w K mg base C k f fd ps sp :=
  ⟨F.ln, fun A ou s H ar us vs Q E ng r => F.go A ou s H ar us vs Q E ng (r.mono l)⟩
theorem fnG_of {C : CXT} {P : Program} {w : World} {K : PySem.W.Frag} {mg : Str → Option Value} {base : Heap} {k : Nat} {f : Addr} {x q : Str} {pa : Arguments} {bd : List Stmt} {sc : Scope} {dV kV doc pm cdv ct oc : Value} {an od : Option Addr} {sl : Array (Option Value)} {N ps : List Str} {sp : Sp}
    (lk : K.lookup f = some ⟨oc, od, .func (PySem.W.fnOf x q pa bd sc dV kV doc pm an cdv ct), sl⟩) (hc : PySem.W.codeIn K cdv q = true) (Sc : FnScope N ps sc) (ln : ∀ vs H Q E, sp vs H Q E → vs.length = ps.length)
    (hB : ∀ (A : Around) (ou : List PySem.Env) (s : Shared) (H : Hp) (vs : List V) (Q : VK) (E : XK), A.guards = some [] → Room k (A.deeper (envOfC q sc s.heap.objs.size f cdv)) → sp vs H Q E →
      ∃ t, PSs (cxOf C P w K mg base N q sc f cdv A ou s H E) bd t ∧ t { nx := fun _ H' => Q .non H', rt := Q } (L2.start N vs) H) :
    FnG P w K mg base C (k + 1) f (PySem.W.fnOf x q pa bd sc dV kV doc pm an cdv ct) ps sp := by
  refine ⟨ln, fun A ou s H ar us vs Q E ng hr e0 ba rv hs => ?_⟩
  have kn : K.In s.heap := e0.mod.kin.keeps fun b o e => (e0.bs b o e).1
  have nl : s.heap.NoLimit := e0.mod.nolimit.keeps fun b o e => (e0.bs b o e).1
  have kd : ∀ y ∈ ps.zip us, sc.names.lookup y.1 = some .local ∨ (sc.names.lookup y.1 = some .cell ∧ ((cellsFrom (s.heap.objs.size + 1) sc.names []).lookup y.1).isSome = true) := by
    intro y hy
    obtain ⟨n, v⟩ := y
    rcases Sc.par n (List.of_mem_zip hy).1 with h | h
    · exact Or.inl h
    · exact Or.inr ⟨h, PySem.W.cellsFrom_some _ _ _ (Or.inl h)⟩
  refine codeAny_call_function hr.depth (kn _ _ lk) rfl Sc.co Sc.gen rfl (PySem.W.codeRec_of kn hc) (ba _ _ _ _ ?_)
  refine wpAny_newFunctionEnv_cells Sc.kind kd fun en he s1 nx => ?_
  subst he
  refine ⟨nl.keeps nx.toInCall.keep, codeAny_func ?_⟩
  obtain ⟨t, ht, hq⟩ := hB A ou s H vs Q E ng (hr.deeper _) hs
  have I : Inv (cxOf C P w K mg base N q sc f cdv A ou s H E) [] (L2.start N vs) H s1 := inv_start Sc hr.hd e0 (ln _ _ _ _ hs) rv nx
  refine wpAny_mono (ht.run [] s1 (L2.start N vs) H _ I hq) (fun fl s2 h2 => ?_) fun e s2 h2 => h2
  cases fl with
  | brk => obtain ⟨_, _, _, z⟩ := h2; exact z.elim
  | cont => obtain ⟨_, _, _, z⟩ := h2; exact z.elim
  | next =>
    obtain ⟨_, H2, J, z⟩ := h2
    exact ⟨V.non, H2, J.os, J.bare, J.base, J.hok, rfl, z⟩
  | ret u =>
    obtain ⟨v, _, H2, J, rv2, z⟩ := h2
    exact ⟨v, H2, J.os, J.bare, J.base, J.hok, rv2, z⟩
/-! ### its call -/
section
variable {X : Cx} {C : CXT} {k : Nat} {f : Addr} {fd : FuncData} {ps : List Str} {sp : Sp} {E : L2.St → XK} {x : Str} {p pos : Pos} {e : Expr} {es : List Expr} {t : TA}
theorem pe_callG (F : FnG X.prog X.w X.K X.mg X.base C k f fd ps sp) (ng : X.A.guards = some []) (hr : Room k X.A) (hg : Gl X x) (hm : X.mg x = some (.ref f)) (hk : PySem.W.keepIn X.K (.ref f) = true) (hb : L2.Binds X.K fd ps []) (hx : ∀ σ, PassesAt C X σ (E σ))
    (ha : PA X (e :: es) t) (hd : (x == ("__debug__" : Str)) = false) (he : starEach (e :: es) X.env = (false, eval e X.env) :: starEach es X.env) (hpl : (backTo pos (starEach es X.env)).any (·.1) = false) :
    PE X (.Call (.Name x p) (e :: es) [] pos) (tCallS sp E t) := by
  constructor
  intro pz s σ H Q I h
  refine wpAny_Call_Name_kw (ld_glob I hg hm ?_ hd)
  refine PySem.W.callWith_K (h₀ := X.base) I.ok.mod.kin hk (thn (ha.run pos pz s σ H _ I h) ?_) he hpl
  rintro us s1 ⟨vs, H1, I1, rv, q⟩
  refine ⟨I1.kIn, ?_⟩
  have n1 : us.length = ps.length := rv.length.symm.trans (F.ln _ _ _ _ q)
  have b1 := hb s1 us I1.kIn (by simpa using n1)
  rw [List.append_nil] at b1
  refine wpAny_call (codeAny_mono (F.go X.A X.stack s1 H1 ⟨us, []⟩ us vs Q (E σ) ng hr I1.env0 b1 rv q) ?_)
  intro r s2 h2
  match r, h2 with
  | .error er, h2 => exact hx σ pz H1 s1 er s2 I1 h2
  | .ok (.ret u), h2 => exact I1.after h2
  | .ok .next, h2 => exact False.elim h2
  | .ok .brk, h2 => exact False.elim h2
  | .ok .cont, h2 => exact False.elim h2
/-- a def that may be called by the name x where no repr is under way -/
structure CalG (P : Program) (w : World) (G : Pg) (mg : Str → Option Value) (base : Heap) (x : Str) (k n : Nat) (T : Fn) : Prop where
  ex : ∃ f fd ps, mg x = some (.ref f) ∧ PySem.W.keepIn G.K (.ref f) = true ∧ L2.Binds G.K fd ps [] ∧ FnG P w G.K mg base (L2.CX P w) k f fd ps (spD G n T)
variable {S : Ent}
theorem dx_callG {n : Nat} {F : Fn} {T : TmL} (C : CalG X.prog X.w S.G X.mg X.base x k n F) (ng : X.A.guards = some []) (hK : X.K = S.G.K) (hr : Room k X.A) (ha : DA S RS X (e :: es) T) (hg : Gl X x := by rfl) (hdb : (x == ("__debug__" : Str)) = false := by decide)
    (he : starEach (e :: es) X.env = (false, eval e X.env) :: starEach es X.env := by rfl) (hpl : (backTo pos (starEach es X.env)).any (·.1) = false := by rfl) : DE S X (.Call (.Name x p) (e :: es) [] pos) (wCall n F T) := ⟨fun W tk => by
  obtain ⟨ta, pa, ra⟩ := ha.run W tk
  obtain ⟨f, fd, ps, h1, h2, h3, h4⟩ := C.ex
  rw [← hK] at h2 h3 h4
  have h4' : FnG X.prog X.w X.K X.mg X.base (L2.CX X.prog X.w) k f fd ps (spD S.G n F) := h4
  refine ⟨_, pe_callG h4' ng hr hg h1 h2 h3 (fun σ => passAt tk σ) pa hdb he hpl, fun Z env σ H Q E Q' R hT k x => ?_⟩
  refine ra Z env σ H _ E _ R hT (fun Z1 env1 vs ds H1 R1 t1 hl r1 hh => ?_) x
  exact call_end R1 t1 (R.vle t1) hl r1 hh.1 hh.2 k x⟩
end
/-! ### the rule of such a def -/
theorem fn_okG {P : Program} {w : World} {G : Pg} {mg : Str → Option Value} {base : Heap} {x qual : Str} {st : Stmt} {f c : Addr} {fd : FuncData} {N ps : List Str} {k n : Nat} {B : Ts} (F : FunC G.K x qual st f fd c) (Sc : FnScope N ps (defScope st)) (hn : n = ps.length)
    (hbody : ∀ (A : Around) (outer : List PySem.Env) (s : Shared) (H : Hp) (E : XK) (S : Ent), S.G = G → A.guards = some [] → Room k (A.deeper (envOfC qual (defScope st) s.heap.objs.size f (.ref c))) →
      DSs S (cxOf (L2.CX P w) P w G.K mg base N qual (defScope st) f (.ref c) A outer s H E) (defBody st) B) : FnG P w G.K mg base (L2.CX P w) (k + 1) f fd ps (spD G n (wFn N.length B)) := by
  obtain ⟨oc, od, kV, doc, pm, an, ct, osl, rfl, lk, hcd⟩ := F.ex
  refine fnG_of lk hcd Sc (fun vs H Q E h => ?_) fun A outer s H vs Q E ng hr h => ?_
  · obtain ⟨_, _, _, _, hl, _⟩ := h
    rw [hl, hn]
  · obtain ⟨Z, ds, Qd, Ed, hl, hl2, oin, hh, r, tt, hT, kq, ke⟩ := h
    have R := entry_rel (N := N) oin hh r (hl.trans hl2.symm) tt
    obtain ⟨t, p, q⟩ := (hbody A outer s H E ⟨G, Z, H⟩ rfl ng hr).run (fun cls d _ H => E cls d H) (takes_of rfl rfl rfl rfl) PassesOwn.leaving
    have hin : ∀ a, Z.h = some a → a ∈ Z.O := fun a ha => (hh a ha).1
    refine ⟨t, p, q _ _ _ H _ _ R hT ⟨fun Z' e s H' R' v h => ?_, fun Z' e s v d H' R' vl rv h => ?_, fun _ _ _ _ _ _ h => h.elim, fun _ _ _ _ _ _ h => h.elim, fun σ' Z' e cls dd er H' R' vl eo h => ?_, fun _ _ _ _ _ _ _ _ _ _ _ h => h.elim⟩⟩
    · exact kq _ _ H' R'.frame (exit_hand R' hin) R'.tabs .non h
    · refine kq d v H' R'.frame (exit_hand R' hin) R'.tabs ?_ h
      exact Rep.mono (exit_vle R') (fun a ha => R'.hsub.symm.trans ha) rv
    · refine ke er cls dd H' R'.frame (exit_hand R' hin) R'.tabs ?_ h
      obtain ⟨C, e1, e2, e3⟩ := eo
      exact ⟨C, e1, e2, e3.mono (exit_vle R') fun a ha => R'.hsub.symm.trans ha⟩
/-! ### law -/
theorem law_fnG {P : Program} {w : World} {G : Pg} {mg : Str → Option Value} {base : Heap} {x qual : Str} {st : Stmt} {f c : Addr} {fd : FuncData} {N ps : List Str} {k : Nat} {B : Ts} {st0 : Stmt} {rest : List Stmt} (F : FunC G.K x qual st f fd c) (Sc : FnScope N ps (defScope st)) (hn : 1 = ps.length) (hN : 2 ≤ N.length) (hst : defBody st = st0 :: rest)
    (h0 : ∀ (A : Around) (outer : List PySem.Env) (s : Shared) (H : Hp) (E : XK), A.guards = some [] → Room k (A.deeper (envOfC qual (defScope st) s.heap.objs.size f (.ref c))) →
      PS (cxOf (L2.CX P w) P w G.K mg base N qual (defScope st) f (.ref c) A outer s H E) st0 (tAsg (tCallS (handSp G) (fun _ _ _ _ => False) (tCons (tVar 0) tNil)) (gName 1)))
    (hbody : ∀ (A : Around) (outer : List PySem.Env) (s : Shared) (H : Hp) (E : XK) (S : Ent), S.G = G → A.guards = some [] → Room k (A.deeper (envOfC qual (defScope st) s.heap.objs.size f (.ref c))) →
      DSs S (cxOf (L2.CX P w) P w G.K mg base N qual (defScope st) f (.ref c) A outer s H E) rest B)
    (hB : B (.no :: .val .hand :: List.replicate (N.length - 2) .no) { nx := fun _ => False, rt := fun d _ => d = .bl true, bk := fun _ => False, ct := fun _ => False, ex := fun _ _ => False }) :
    FnG P w G.K mg base (L2.CX P w) (k + 1) f fd ps (lawSp G) := by
  obtain ⟨oc, od, kV, doc, pm, an, ct, osl, rfl, lk, hcd⟩ := F.ex
  refine fnG_of lk hcd Sc (fun vs H Q E h => ?_) fun A outer s H vs Q E ng hr h => ?_
  · obtain ⟨_, _, rfl, _⟩ := h
    exact hn
  · obtain ⟨a, ns, rfl, sq, hl, tt, kq⟩ := h
    let T : TS := fun D' σ H' => ∃ S : Ent, ∃ Z env, S.G = G ∧ Rel S Z env σ H' ∧ B env { nx := fun _ => False, rt := fun d _ => d = .bl true, bk := fun _ => False, ct := fun _ => False, ex := fun _ _ => False } ∧ ∀ H', D'.rt (.bl true) H'
    have pr : PSs (cxOf (L2.CX P w) P w G.K mg base N qual (defScope st) f (.ref c) A outer s H E) rest T := ⟨fun pins s1 σ H1 D' I hh => by
      obtain ⟨S, Z, env, eG, R, hb, kk⟩ := hh
      obtain ⟨t, pp, q⟩ := (hbody A outer s H E S eG ng hr).run (fun cls d _ H => E cls d H) (takes_of rfl rfl rfl rfl) PassesOwn.leaving
      exact pp.run pins s1 σ H1 D' I (q Z env σ H1 _ D' R hb ⟨fun _ _ _ _ _ _ h => h.elim, fun Z' e σ' v d H' R' vl rv h => by subst h; cases rv; exact kk H', fun _ _ _ _ _ _ h => h.elim, fun _ _ _ _ _ _ h => h.elim, fun _ _ _ _ _ _ _ _ _ _ h => h.elim, fun _ _ _ _ _ _ _ _ _ _ _ h => h.elim⟩)⟩
    rw [hst]
    refine ⟨_, pss_cons (h0 A outer s H E ng hr) pr, ?_⟩
    refine ⟨.ref a, ?_, a, ns, rfl, sq, hl, tt, fun p H' tt' ho => ?_⟩
    · unfold L2.start
      rfl
    · refine ⟨⟨G, ⟨[p], some p, []⟩, H'⟩, ⟨[p], some p, []⟩, _, rfl, ?_, hB, kq⟩
      have hpn : H' p ≠ none := by
        obtain ⟨_, _, _, _, _, _, _, e, _⟩ := ho
        rw [e]; simp
      refine ⟨fun b hb => by rw [List.mem_singleton.mp hb]; exact hpn, fun _ h => h, fun b hb => by cases hb; exact ho, rfl, fun b o e _ => .of e, fun b hb => by rw [List.mem_singleton.mp hb]; exact hpn, fun b hb => .inl hb, ?_, fun i y e => ?_, fun i j y z b ey ez oy oz _ _ => ?_, fun b hb => absurd hb (by simp), tt', fun b hb => .inl hb⟩
      · unfold L2.start
        simp
        omega
      · match i with
        | 0 => cases e; trivial
        | 1 =>
          cases e
          refine ⟨.ref p, ?_, .hand rfl⟩
          rw [List.getElem?_set_self]
          unfold L2.start
          simp
          omega
        | i + 2 =>
          rw [List.getElem?_cons_succ, List.getElem?_cons_succ, List.getElem?_replicate] at e
          split at e
          · cases e; trivial
          · cases e
      · match i with
        | 0 => cases ey; cases oy
        | 1 => cases ey; cases oy
        | i + 2 =>
          rw [List.getElem?_cons_succ, List.getElem?_cons_succ, List.getElem?_replicate] at ey
          split at ey
          · cases ey; cases oy
          · cases ey
/-! ### the end: law is called at the top, where no repr is under way -/
section
variable {P : Program} {w : World} {K : PySem.W.Frag} {mg mb : Str → Option Value} {C : CXT} {k : Nat} {fa a : Addr} {tb : List (Addr × Addr)} {fd : FuncData} {x : Str} {sp : Sp} {s1 : Shared} {vs : List Value} {ns : List Int}
/-- an abstract heap for the top: the tables, the script or nothing else -/
structure TopH (P : Program) (w : World) (K : PySem.W.Frag) (s1 : Shared) (a : Addr) (tb : List (Addr × Addr)) (ns : List Int) (H : Hp) : Prop where
  tab : ∀ p ∈ tb, H p.2 = some (.tbl #[])
  sq : SqL K H a (ns.map V.int)
  hok : HOk P w H s1.heap
  cas : ∀ b, H b = none ∨ (b ∈ tb.map (·.2) ∧ H b = some (.tbl #[])) ∨ (b = a ∧ K.lookup a = none ∧ ∃ o xs, H b = some (.frz o (.lst xs)))
theorem tabs_mem {H : Hp} (t : ∀ p ∈ tb, s1.heap.get? p.2 = some { cls := .none, data := .fields #[] }) {b : Addr} (hb : b ∈ tb.map (·.2)) : s1.heap.get? b = some { cls := .none, data := .fields #[] } := by
  obtain ⟨p, hp, rfl⟩ := List.mem_map.mp hb
  exact t p hp
/-- there is such a heap -/
theorem topH_ex (KX : K.In s1.heap) (hT : ∀ p ∈ tb, s1.heap.get? p.2 = some { cls := .none, data := .fields #[] })
    (ha : s1.heap.get? a = some { cls := .type "list", data := .seq vs.toArray }) (hi : IntsAre vs ns) (hl : ns.length ≤ sizeLine) : ∃ H, TopH P w K s1 a tb ns H := by
  have rv := vals_ints hi
  have ln := hi.length
  have na : a ∉ tb.map (·.2) := by
    intro z
    have q := tabs_mem (H := fun _ => none) hT z
    rw [ha] at q
    have q2 := congrArg Obj.data (Option.some.inj q)
    cases q2
  have mT : ∀ p ∈ tb, p.2 ∈ tb.map (·.2) := fun p hp => List.mem_map.mpr ⟨p, hp, rfl⟩
  cases hk : K.lookup a with
  | some o =>
    have e := KX a o hk
    rw [ha] at e
    cases e
    refine ⟨fun b => if b ∈ tb.map (·.2) then some (.tbl #[]) else none, fun p hp => if_pos (mT p hp), ?_, ?_, ?_⟩
    · refine Or.inr ⟨_, vs.toArray, _, hk, rfl, rfl, rfl, ?_, ?_⟩
      · rw [List.size_toArray, ln]; exact hl
      · simpa using rv
    · intro b u z
      dsimp only at z
      by_cases hb : b ∈ tb.map (·.2)
      · rw [if_pos hb] at z
        cases z
        exact tabs_mem (H := fun _ => none) hT hb
      · rw [if_neg hb] at z
        cases z
    · intro b
      by_cases hb : b ∈ tb.map (·.2)
      · exact Or.inr (Or.inl ⟨hb, if_pos hb⟩)
      · exact Or.inl (if_neg hb)
  | none =>
    refine ⟨fun b => if b ∈ tb.map (·.2) then some (.tbl #[]) else if b = a then some (.frz { cls := .type "list", data := .seq vs.toArray } (.lst (ns.map V.int))) else none, fun p hp => if_pos (mT p hp), ?_, ?_, ?_⟩
    · exact Or.inl (Or.inr ⟨{ cls := .type "list", data := .seq vs.toArray }, (if_neg na).trans (if_pos rfl)⟩)
    · intro b u z
      dsimp only at z
      by_cases hb : b ∈ tb.map (·.2)
      · rw [if_pos hb] at z
        cases z
        exact tabs_mem (H := fun _ => none) hT hb
      · rw [if_neg hb] at z
        by_cases h2 : b = a
        · rw [if_pos h2] at z
          cases z
          rw [h2]
          refine ⟨ha, ?_, vs, _, rv, ha⟩
          rw [List.length_map]; exact hl
        · rw [if_neg h2] at z
          cases z
    · intro b
      by_cases hb : b ∈ tb.map (·.2)
      · exact Or.inr (Or.inl ⟨hb, if_pos hb⟩)
      · by_cases h2 : b = a
        · exact Or.inr (Or.inr ⟨h2, hk, _, _, (if_neg hb).trans (if_pos h2)⟩)
        · exact Or.inl ((if_neg hb).trans (if_neg h2))
theorem law_callG (KX : K.In s1.heap) (gm : s1.heap.Ns mainGlobals mg) (gb : s1.heap.Ns builtinsNs mb) (bb : ∀ x : Str, x ≠ "__name__" → mb x = bootBuiltins x) (lim : s1.heap.NoLimit) (g0 : s1.gens = #[])
    (hT : ∀ p ∈ tb, s1.heap.get? p.2 = some { cls := .none, data := .fields #[] }) (nT : ∀ p ∈ tb, K.lookup p.2 = none) (cT : ∀ p ∈ tb, PySem.W.CodeHd s1.heap p.1 p.2)
    (bmn : ∃ (bm : Addr) (ob : Obj), mg "__builtins__" = some (.ref bm) ∧ bm ≠ builtinsNs ∧ s1.heap.get? bm = some ob ∧ ob.cls = .type "module" ∧ ob.dict = some builtinsNs ∧ ob.data = .plain)
    (ha : s1.heap.get? a = some { cls := .type "list", data := .seq vs.toArray }) (hi : IntsAre vs ns) (hl : ns.length ≤ sizeLine) (hr : Room k callerA)
    (F : ∀ base : Heap, K.In base → base.Ns mainGlobals mg → (∀ p ∈ tb, LamX.TabB base mg p.1 p.2) → FnG P w K mg base C k fa fd [x] sp) (bind : ∀ (s : Shared) (u : Value), BindsTo s fd ⟨[u], []⟩ [(x, u)])
    (hsp : ∀ H : Hp, (∀ p ∈ tb, H p.2 = some (.tbl #[])) → SqL K H a (ns.map V.int) → sp [.ref a] H (fun v _ => v = .bl true) fun _ _ _ => False)
    (hC : ∀ H e s2, C [] H s1 (fun _ _ _ => False) e s2 → False) :
    codeAny (model P w) callerA (.call (.ref fa) ⟨[.ref a], []⟩) (fun r s2 => r = .ok (.ret (.bool true)) ∧ OldK s1.heap s2.heap ∧ s2.os = s1.os ∧ AllBare s2.gens) s1 := by
  obtain ⟨H, T⟩ := topH_ex (P := P) (w := w) KX hT ha hi hl
  have isT : ∀ {b : Addr}, b ∈ tb.map (·.2) → s1.heap.get? b = some { cls := .none, data := .fields #[] } := fun hb => tabs_mem (H := H) hT hb
  -- an object that is no list and no empty row of fields is not hidden
  have bare : ∀ {b : Addr} {o : Obj}, s1.heap.get? b = some o → (∀ u n, o.data ≠ .seq u n) → o.data ≠ .fields #[] → (hidT s1.heap H).get? b = some o := by
    intro b o e q1 q2
    refine hidT_get e ?_
    rcases T.cas b with z | ⟨z, _⟩ | ⟨z, _⟩
    · exact z
    · rw [isT z] at e
      cases e
      exact absurd rfl q2
    · rw [z, ha] at e
      cases e
      exact absurd rfl (q1 _ _)
  have nsB : ∀ {b : Addr} {m : Str → Option Value}, s1.heap.Ns b m → (hidT s1.heap H).Ns b m := by
    rintro b m ⟨o, es, ep, e, d, r⟩
    refine ⟨o, es, ep, bare e (fun u n z => ?_) (fun z => ?_), d, r⟩ <;> · rw [d] at z; cases z
  have kB : K.In (hidT s1.heap H) := by
    intro b o e
    refine hidT_get (KX b o e) ?_
    rcases T.cas b with z | ⟨z, _⟩ | ⟨z, q, _⟩
    · exact z
    · obtain ⟨p, hp, rfl⟩ := List.mem_map.mp z
      rw [nT p hp] at e
      cases e
    · rw [z, q] at e
      cases e
  have md : L2.Mod K mg (hidT s1.heap H) := by
    obtain ⟨mc, q1, q2⟩ := lim
    exact ⟨kB, nsB gm, ⟨mb, nsB gb, bb⟩, mc, nsB q1, q2⟩
  have tB : ∀ p ∈ tb, LamX.TabB (hidT s1.heap H) mg p.1 p.2 := by
    intro p hp
    have hTp := hT p hp
    obtain ⟨om, em, pm, gm1, gm2, _⟩ := gm
    refine ⟨?_, ?_, ?_⟩
    · obtain ⟨o, us, file, tf, flags, tg, inF, text, tt, e1, r1, r2, r3, r⟩ := cT p hp
      refine ⟨o, us, file, tf, flags, tg, inF, text, tt, bare e1 (fun u n z => ?_) (fun z => ?_), r1, r2, r3, r⟩
      · rw [r2] at z; cases z
      · rw [r2] at z; cases z; simp at r3
    · obtain ⟨bm, ob, b1, b2, b3, b4, b5, b6⟩ := bmn
      refine ⟨bm, ob, b1, b2, fun q => ?_, fun q => ?_, bare b3 (fun u n z => ?_) (fun z => ?_), b4, b5, b6⟩
      · rw [q, gm1] at b3; cases b3; rw [gm2] at b6; cases b6
      · rw [q, hTp] at b3; cases b3; cases b6
      · rw [b6] at z; cases z
      · rw [b6] at z; cases z
    · intro z
      rw [z, hTp] at gm1
      cases gm1
      cases gm2
  have e0 : Env0 P w K mg (hidT s1.heap H) callerA [] s1 H := by
    refine ⟨rfl, md, fun b o e => of_hidT e, Nat.le_of_eq (hidT_size _ _), trivial, fun b hb => ?_, T.hok, .of_eq g0⟩
    exact absurd (show b ∈ ([] : List Addr) from hb) (by simp)
  refine codeAny_mono ((F _ kB (nsB gm) tB).go callerA [] s1 H ⟨[.ref a], []⟩ [.ref a] [.ref a] _ _ rfl hr e0 (bind s1 (.ref a)) (.cons rfl .nil) (hsp H T.tab T.sq)) ?_
  intro r s2 h
  match r, h with
  | .error e, h => exact (hC H e s2 h).elim
  | .ok .next, h => exact False.elim h
  | .ok .brk, h => exact False.elim h
  | .ok .cont, h => exact False.elim h
  | .ok (.ret u), h =>
    obtain ⟨v, H2, os, br, un, hok2, rv2, q⟩ := h
    have q2 : v = .bl true := q
    subst q2
    obtain rfl : u = Value.bool true := rv2
    have old : ∀ b o, b ∉ tb.map (·.2) → s1.heap.get? b = some o → s2.heap.get? b = some o := by
      intro b o nb e
      rcases T.cas b with z | ⟨z, _⟩ | ⟨_, _, ob, xs, z⟩
      · exact un.keep b o e z (by intro z; exact absurd (show b ∈ ([] : List Addr) from z) (by simp)) (by simp)
      · exact absurd z nb
      · obtain ⟨e1, _⟩ := T.hok b _ z
        obtain ⟨e2, _⟩ := hok2 b _ (un.frzs b ob _ z)
        rw [e] at e1; cases e1
        exact e2
    have grew : ∀ p ∈ tb, ∃ more : Array Value, s2.heap.get? p.2 = some { cls := .none, data := .fields more } := by
      intro p hp
      obtain ⟨more, z⟩ := un.tbls p.2 #[] (T.tab p hp)
      exact ⟨_, hok2 p.2 _ z⟩
    refine ⟨rfl, ⟨fun b o e => ?_, fun b o e => ?_⟩, os, br⟩ <;> by_cases hb : b ∈ tb.map (·.2)
    · obtain ⟨p, hp, rfl⟩ := List.mem_map.mp hb
      obtain ⟨more, hm⟩ := grew p hp
      rw [hT p hp] at e
      cases e
      refine .inr (.inl ⟨((cT p hp).tab (hT p hp)).isCodeTable, rfl, #[], more, rfl, ?_⟩)
      rw [Array.empty_append]; exact hm
    · exact .inl (old b o hb e)
    · obtain ⟨p, hp, rfl⟩ := List.mem_map.mp hb
      obtain ⟨more, hm⟩ := grew p hp
      exact ⟨_, hm⟩
    · exact ⟨o, old b o hb e⟩
end
/-- what is asked of law's promise at the head's heap -/
def LawAtG (l : PySem.W.OpenLaw) (w : World) (K : PySem.W.Frag) (C : CXT) (k n : Nat) (x : Str) (mg : Str → Option Value) (fa : Addr) (h : Heap) : Prop :=
  ∃ (fd : FuncData) (tb : List (Addr × Addr)) (sp : Sp), (∀ p ∈ tb, h.get? p.2 = some { cls := .none, data := .fields #[] }) ∧ (∀ p ∈ tb, K.lookup p.2 = none) ∧ (∀ p ∈ tb, PySem.W.CodeHd h p.1 p.2) ∧ (∀ (s : Shared) (u : Value), BindsTo s fd ⟨[u], []⟩ [(x, u)]) ∧
    (∀ (H : Hp) (a : Addr) (ns : List Int), ns.length ≤ n → (∀ z ∈ ns, Builtin.Int.intBits z ≤ 1048576) → (∀ p ∈ tb, H p.2 = some (.tbl #[])) → SqL K H a (ns.map V.int) → sp [.ref a] H (fun v _ => v = .bl true) fun _ _ _ => False) ∧
    ∀ base : Heap, K.In base → base.Ns mainGlobals mg → (∀ p ∈ tb, LamX.TabB base mg p.1 p.2) → FnG l.prog w K mg base C k fa fd [x] sp
theorem walk_tabsG {l : PySem.W.OpenLaw} {n k : Nat} {q : Program} {loose : List Str} {XP : (Str → Option Value) → Heap → Prop} {YP : World → Heap → Prop} {d : DefRec} {K : Params → PySem.W.Frag} {CX : World → CXT} {x : Str} (hn : l.most = some n) (hn2 : n ≤ sizeLine) (hdf : d.params.defaults = []) (hr : Room k callerA) (hY : ∀ (w : World) (h : Heap), YP w h → (K w.params).In h)
    (F : ∀ (w : World) (mg : Str → Option Value) (fa : Addr) (h : Heap), YP w h → (K w.params).In h → h.Ns mainGlobals mg → mg d.name = some (.ref fa) → (∀ x, ((recsOf q).any fun e => e.name == x) = true → TabOf (K w.params) mg x h) → LawAtG l w (K w.params) (CX w) k n x mg fa h)
    (hCX : ∀ (w : World) (H : Hp) (s : Shared) (e : Value) (s' : Shared), CX w [] H s (fun _ _ _ => False) e s' → False) : PySem.W.WalkO q loose XP YP l.row.toRowW d [] (fun f vs => PySem.call f vs) := by
  refine Att.attach_callB hn hdf fun w s0 s1 mg mb fa o pm cd doc a vs ns G Y ho hd hcd hmg hobj hints hlen hbits hg => ?_
  have KX := hY w _ Y
  have tabs : ∀ x, ((recsOf q).any fun e => e.name == x) = true → TabOf (K w.params) mg x s1.heap := fun x hrec f2 c P o1 fd1 e dd v1 sl k0 k1 k2 k3 k4 k5 => by
    obtain ⟨dL, hm, hn1⟩ := List.any_eq_true.mp hrec
    obtain rfl : dL.name = x := beq_iff_eq.mp hn1
    obtain ⟨a', o', fd', c', P', h1, h2, h3, h4, h5, h6⟩ := G.T.tab dL hm
    rw [k0] at h1
    cases h1
    rw [KX _ _ k1] at h2
    cases h2
    rw [k2] at h3
    cases h3
    rw [k3] at h4
    cases h4
    obtain ⟨⟨oc, vc, e1, _, e3, e4⟩, hP⟩ := h6
    rw [KX _ _ k4] at e1
    cases e1
    cases e3
    rw [k5] at e4
    cases e4
    exact hP
  obtain ⟨fd, tb, sp, hT, nT, cT, hb, hsp, hF⟩ := F w mg fa _ Y KX G.T.g hmg tabs
  exact law_callG KX G.T.g G.T.b G.T.builtins G.T.nolimit hg hT nT cT G.T.bmain hobj hints (Nat.le_trans hlen hn2) hr hF hb (fun H hH hS => hsp H a ns hlen hbits hH hS) fun H e s' => hCX w H s1 e s'
/-! ### repr of rows of rows of flags, numbers, texts -/
mutual
def py : D → PyData
  | .bl b => .bool b
  | .int i => .int i
  | .str s => .str s
  | .tup xs => .tuple (pyL xs)
  | .lst xs => .list (pyL xs)
  | _ => .none
def pyL : List D → List PyData
  | [] => []
  | x :: xs => py x :: pyL xs
end
mutual
/-- may be shown: rows in rows, n deep at most, ints of a size -/
def pyOk : Nat → D → Prop
  | _, .non => True
  | _, .bl _ => True
  | _, .int i => i.natAbs.log2 < 1920
  | _, .str _ => True
  | n + 1, .tup xs => pyOkL n xs
  | n + 1, .lst xs => pyOkL n xs
  | _, _ => False
def pyOkL : Nat → List D → Prop
  | _, [] => True
  | n, x :: xs => pyOk n x ∧ pyOkL n xs
end
mutual
/-- how long the text is at most -/
def pyW : D → Nat
  | .non => 4
  | .bl _ => 5
  | .int _ => 1921
  | .str s => (reprText s).length
  | .tup xs => pyWL xs + 3
  | .lst xs => pyWL xs + 2
  | _ => 0
def pyWL : List D → Nat
  | [] => 0
  | x :: xs => pyW x + 2 + pyWL xs
end
section
variable {P : Program} {w : World} {G : Pg} {H Hv : Hp} {hh : Option Addr} {h : Heap}
mutual
theorem rep_reads (kin : G.K.In h) (ok : HOk P w H h) (sub : ∀ b o, Hv b = some o → H b = some o) : ∀ {v : V} {d : D} {n : Nat}, Rep G Hv hh v d → pyOk n d → ∀ {u : Value}, RelV v u → ∃ as, Reads h u (py d) as
  | _, _, _, .non, _, u, r => by
    obtain rfl : u = Value.none := r
    exact ⟨_, .none⟩
  | _, _, _, .bl b, _, u, r => by
    obtain rfl : u = Value.bool b := r
    exact ⟨_, .bool b⟩
  | _, _, _, .int i, _, u, r => by
    obtain ⟨t, rfl⟩ : ∃ t, u = Value.int i t := r
    exact ⟨_, .int i t⟩
  | _, _, _, .str s, _, u, r => by
    obtain ⟨t, rfl⟩ : ∃ t, u = Value.str s t := r
    exact ⟨_, .str s t⟩
  | _, _, 0, .tup _ _, q, _, _ => by simp only [pyOk] at q
  | _, _, 0, .lst _ _, q, _, _ => by simp only [pyOk] at q
  | _, _, n + 1, .tup e rs, q, u, r => by
    rename_i a vs ds
    obtain rfl : u = Value.ref a := r
    simp only [pyOk] at q
    have e2 : SqT G.K H a vs := by
      rcases e with (e | ⟨o, e⟩) | e
      · exact .inl (.inl (sub _ _ e))
      · exact .inl (.inr ⟨o, sub _ _ e⟩)
      · exact .inr e
    rcases e2 with e2 | ⟨o, its, m, e2, c, d, z, vv⟩
    · obtain ⟨_, its, vv, o, e3, c, m, d⟩ := e2.ok ok
      obtain ⟨as, ra⟩ := rep_readsL kin ok sub rs q vv
      simp only [py]
      exact ⟨_, .tuple e3 c d (by simpa using ra)⟩
    · obtain ⟨as, ra⟩ := rep_readsL kin ok sub rs q vv
      simp only [py]
      exact ⟨_, .tuple (kin _ _ e2) c d ra⟩
  | _, _, n + 1, .lst e rs, q, u, r => by
    rename_i a vs ds
    obtain rfl : u = Value.ref a := r
    simp only [pyOk] at q
    obtain ⟨_, its, m, vv, e3⟩ := ok _ _ (sub _ _ e)
    obtain ⟨as, ra⟩ := rep_readsL kin ok sub rs q vv
    simp only [py]
    exact ⟨_, .list e3 rfl rfl (by simpa using ra)⟩
  | _, _, n, .dK _ _ _ _, q, _, _ => by cases n <;> simp only [pyOk] at q
  | _, _, n, .dT _ _ _ _, q, _, _ => by cases n <;> simp only [pyOk] at q
  | _, _, n, .obj _ _ _ _ _, q, _, _ => by cases n <;> simp only [pyOk] at q
  | _, _, n, .frz _ _, q, _, _ => by cases n <;> simp only [pyOk] at q
  | _, _, n, .hand _, q, _, _ => by cases n <;> simp only [pyOk] at q
  | _, _, n, .fn _, q, _, _ => by cases n <;> simp only [pyOk] at q
theorem rep_readsL (kin : G.K.In h) (ok : HOk P w H h) (sub : ∀ b o, Hv b = some o → H b = some o) : ∀ {vs : List V} {ds : List D} {n : Nat}, RepL G Hv hh vs ds → pyOkL n ds → ∀ {us : List Value}, Vals vs us → ∃ as, ReadsAll h us (pyL ds) as
  | _, _, _, .nil, _, _, r => by
    cases r
    exact ⟨_, .nil⟩
  | _, _, _, .cons r1 rs, q, _, r => by
    cases r with
    | cons a b =>
      simp only [pyOkL] at q
      obtain ⟨as, x⟩ := rep_reads kin ok sub r1 q.1 a
      obtain ⟨bs, y⟩ := rep_readsL kin ok sub rs q.2 b
      simp only [pyL]
      exact ⟨_, .cons x y⟩
end
end
theorem textFrom_up : ∀ (ts : List Str) (k : Nat) (acc : Str), (textFrom k acc ts).length ≤ acc.length + piled ts
  | [], k, acc => by show acc.length ≤ _; omega
  | t :: r, k, acc => by
    have ih := textFrom_up r (k + 1) (acc ++ (if k > 0 then ", " else "" : String) ++ t)
    have e : (acc ++ (if k > 0 then ", " else "" : String) ++ t).length = acc.length + (if k > 0 then 2 else 0) + t.length := by
      simp only [strLen_append]
      by_cases q : k > 0
      · simp only [if_pos q]; rfl
      · simp only [if_neg q]; rfl
    have f : (if k > 0 then 2 else 0) ≤ 2 := by split <;> omega
    show (textFrom (k + 1) _ r).length ≤ _
    rw [piled_cons]
    omega
theorem listText_up (ts : List Str) : (listText ts).length ≤ piled ts + 2 := by
  have h := textFrom_up ts 0 "["
  unfold listText
  rw [strLen_append]
  have e1 : (("]" : String) : Str).length = 1 := rfl
  have e2 : (("[" : String) : Str).length = 1 := rfl
  omega
theorem tupleText_up (ts : List Str) : (tupleText ts).length ≤ piled ts + 3 := by
  unfold tupleText
  rw [strLen_append, strLen_append]
  have e1 : (("(" : String) : Str).length = 1 := rfl
  have e3 : (((if ts.length == 1 then ",)" else ")" : String)) : Str).length ≤ 2 := by split <;> decide
  cases ts with
  | nil =>
    have e4 : (Str.join ", " []).length = 0 := rfl
    omega
  | cons t r =>
    have h := join_length_add (t :: r) (by simp)
    omega
mutual
theorem py_show : ∀ {d : D} {n : Nat}, pyOk n d → (py d).showable = true ∧ (py d).hasDict = false ∧ (py d).depth ≤ n ∧ (py d).shown.length ≤ pyW d
  | .non, n, _ => ⟨rfl, rfl, Nat.zero_le _, by simp only [py, PyData.shown, pyW]; decide⟩
  | .bl b, n, _ => ⟨rfl, rfl, Nat.zero_le _, by cases b <;> simp only [py, PyData.shown, pyW] <;> decide⟩
  | .int i, n, h => by
    have h' : i.natAbs.log2 < 1920 := by cases n <;> simpa only [pyOk] using h
    refine ⟨by simp only [py, PyData.showable]; exact decide_eq_true h', rfl, Nat.zero_le _, ?_⟩
    simp only [py, PyData.shown, pyW]
    exact PyProof.Rows.int_text_len_1921 h'
  | .str s, n, _ => ⟨rfl, rfl, Nat.zero_le _, by simp only [py, PyData.shown, pyW]; exact Nat.le_refl _⟩
  | .tup xs, 0, h => by simp only [pyOk] at h
  | .lst xs, 0, h => by simp only [pyOk] at h
  | .tup xs, n + 1, h => by
    simp only [pyOk] at h
    obtain ⟨a, b, c, d⟩ := py_showL h
    refine ⟨by simp only [py, PyData.showable]; exact a, by simp only [py, PyData.hasDict]; exact b, by simp only [py, PyData.depth]; omega, ?_⟩
    simp only [py, PyData.shown, pyW]
    exact Nat.le_trans (tupleText_up _) (by omega)
  | .lst xs, n + 1, h => by
    simp only [pyOk] at h
    obtain ⟨a, b, c, d⟩ := py_showL h
    refine ⟨by simp only [py, PyData.showable]; exact a, by simp only [py, PyData.hasDict]; exact b, by simp only [py, PyData.depth]; omega, ?_⟩
    simp only [py, PyData.shown, pyW]
    exact Nat.le_trans (listText_up _) (by omega)
  | .dct _, n, h => by cases n <;> simp only [pyOk] at h
  | .obj _ _, n, h => by cases n <;> simp only [pyOk] at h
  | .frz _, n, h => by cases n <;> simp only [pyOk] at h
  | .hand, n, h => by cases n <;> simp only [pyOk] at h
  | .fn _, n, h => by cases n <;> simp only [pyOk] at h
theorem py_showL : ∀ {ds : List D} {n : Nat}, pyOkL n ds → PyData.showableAll (pyL ds) = true ∧ PyData.hasDictAll (pyL ds) = false ∧ PyData.depthAll (pyL ds) ≤ n ∧ piled (PyData.shownAll (pyL ds)) ≤ pyWL ds
  | [], n, _ => ⟨rfl, rfl, Nat.zero_le _, by simp only [pyL, PyData.shownAll, pyWL]; exact Nat.le_refl _⟩
  | x :: xs, n, h => by
    simp only [pyOkL] at h
    obtain ⟨a, b, c, d⟩ := py_show h.1
    obtain ⟨a2, b2, c2, d2⟩ := py_showL h.2
    refine ⟨by simp only [pyL, PyData.showableAll, a, a2]; rfl, by simp only [pyL, PyData.hasDictAll, b, b2]; rfl, by simp only [pyL, PyData.depthAll]; omega, ?_⟩
    simp only [pyL, PyData.shownAll, pyWL]
    rw [piled_cons]
    omega
end
/-- repr(x), x a row -/
def gRepr : GL := fun ds Q => match ds with
  | [.lst xs] => pyOkL 49 xs ∧ pyWL xs + 2 ≤ sizeLine ∧ Q (.str (py (.lst xs)).shown)
  | [.tup xs] => pyOkL 49 xs ∧ pyWL xs + 3 ≤ sizeLine ∧ Q (.str (py (.tup xs)).shown)
  | _ => False
section
variable {X : Cx} {S : Ent}
theorem cr_repr (ng : X.A.guards = some []) (hu : X.A.units + 65 < cLine) : CallR X (.builtin "repr") (fun xs H Q => ∃ (G : Pg) (Hv : Hp) (hh : Option Addr) (a : Addr) (d : D) (vs : List V) (ds : List D), xs = [.ref a] ∧ X.K = G.K ∧ (∀ b o, Hv b = some o → H b = some o) ∧ RepL G Hv hh vs ds ∧
    ((d = .lst ds ∧ H a = some (.lst vs)) ∨ (d = .tup ds ∧ SqT G.K H a vs)) ∧ pyOk 50 d ∧ pyW d ≤ sizeLine ∧ Q (.str (py d).shown) H) := by
  intro pz s σ H xs us Q I r h
  obtain ⟨G, Hv, hh, a, d, vs, ds, rfl, eK, sub, rs, hd, p1, p2, q⟩ := h
  obtain ⟨u, rfl, ru⟩ := vals1 r
  obtain rfl : u = Value.ref a := ru
  have kin : G.K.In s.heap := by rw [← eK]; exact I.kIn
  obtain ⟨b1, b2, b3, b4⟩ := py_show p1
  obtain ⟨as, rd⟩ : ∃ as, Reads s.heap (.ref a) (py d) as := by
    rcases hd with ⟨rfl, e⟩ | ⟨rfl, e⟩
    · simp only [pyOk] at p1
      obtain ⟨_, its, m, vv, e3⟩ := I.hok _ _ e
      obtain ⟨as, ra⟩ := rep_readsL kin I.hok sub rs p1 vv
      simp only [py]
      exact ⟨_, .list e3 rfl rfl (by simpa using ra)⟩
    · simp only [pyOk] at p1
      simp only [py]
      rcases e with e | ⟨o, its, m, e2, c, d, z, vv⟩
      · obtain ⟨_, its, vv, o, e3, c, m, d⟩ := e.ok I.hok
        obtain ⟨as, ra⟩ := rep_readsL kin I.hok sub rs p1 vv
        exact ⟨_, .tuple e3 c d (by simpa using ra)⟩
      · obtain ⟨as, ra⟩ := rep_readsL kin I.hok sub rs p1 vv
        exact ⟨_, .tuple (kin _ _ e2) c d ra⟩
  refine repr_of_reads' rd b1 (fun z => ?_) ng (by omega) (fun b o e => e) (fun h' u tk hk => ?_) (Nat.le_trans b4 p2)
  · rw [b2] at z
    cases z
  · exact ⟨.str _, H, I.kept hk, ⟨u, rfl⟩, q⟩
theorem cd_repr (hK : X.K = S.G.K) (ng : X.A.guards = some []) (hu : X.A.units + 65 < cLine) : CallD S X (.builtin "repr") gRepr := by
  refine ⟨_, cr_repr ng hu, fun Z H vs ds Qd Q' hl hr hg k oin => ?_⟩
  unfold gRepr at hg
  split at hg
  · obtain ⟨v, rfl, r⟩ := one_of hl hr
    obtain ⟨p, ws, rfl, ep, rp⟩ := r.lst
    exact ⟨S.G, _, _, p, _, ws, _, rfl, hK, fun b o e => (vis_some e).2, rp, .inl ⟨rfl, ep⟩, by simp only [pyOk]; exact hg.1, by simp only [pyW]; exact hg.2.1, k _ _ _ Same.rfl' (.str _) hg.2.2⟩
  · obtain ⟨v, rfl, r⟩ := one_of hl hr
    obtain ⟨p, ws, rfl, ep, rp⟩ := r.tup
    exact ⟨S.G, _, _, p, _, ws, _, rfl, hK, fun b o e => (vis_some e).2, rp, .inr ⟨rfl, ep⟩, by simp only [pyOk]; exact hg.1, by simp only [pyW]; exact hg.2.1, k _ _ _ Same.rfl' (.str _) hg.2.2⟩
  · exact hg.elim
end
end DV

set_option Elab.async false
set_option linter.all false
set_option maxRecDepth 100000
set_option maxHeartbeats 2100000
/-! DV22: lambda x=0: e, a name of its own that the def around has not. -/
namespace DV
open PySem PySem.Spec PyProof.Rows L2 LamX
/-- the lambda's names: own ones that the def around has not, captured ones, globals; a is an own one -/
structure LamD (sc0 : Scope) (N : List Str) (sc : Scope) (a : Str) : Prop where
  kind : sc.kind = .function
  co : sc.isCoroutine = false
  gen : sc.isGenerator = false
  own : ∀ y ∈ sc.names, y.2 ≠ .cell ∧ (y.2 = .local → y.1 ∉ N)
  fr : ∀ y ∈ sc.names, y.2 = .free → sc0.names.lookup y.1 = some .cell ∨ sc0.names.lookup y.1 = some .free
  loc : sc.names.lookup a = some .local
def lamDB (sc0 : Scope) (N : List Str) (sc : Scope) (a : Str) : Bool :=
  decide (sc.kind = .function) && !sc.isCoroutine && !sc.isGenerator && decide (sc.names.lookup a = some .local) && sc.names.all fun y => !decide (y.2 = .cell) && (!decide (y.2 = .local) || !decide (y.1 ∈ N)) && (!decide (y.2 = .free) || decide (sc0.names.lookup y.1 = some .cell) || decide (sc0.names.lookup y.1 = some .free))
theorem lamD_by {sc0 sc : Scope} {N : List Str} {a : Str} (h : lamDB sc0 N sc a = true) : LamD sc0 N sc a := by
  unfold lamDB at h
  simp only [Bool.and_eq_true, Bool.or_eq_true, Bool.not_eq_true', decide_eq_true_eq, decide_eq_false_iff_not, List.all_eq_true] at h
  obtain ⟨⟨⟨⟨h1, h2⟩, h3⟩, h5⟩, h4⟩ := h
  refine ⟨h1, h2, h3, fun y hy => ⟨(h4 y hy).1.1, fun e => ?_⟩, fun y hy e => ?_, h5⟩
  · rcases (h4 y hy).1.2 with z | z
    · exact absurd e z
    · exact z
  · rcases (h4 y hy).2 with (z | z) | z
    · exact absurd e z
    · exact .inl z
    · exact .inr z
section
variable {X : Cx} {pz : List (Addr × Obj)} {σ : L2.St} {H HZ : Hp} {s s1 : Shared} {sc : Scope} {a : Str}
theorem LamD.has (L : LamD X.env.scope X.N sc a) (ok : X.Ok) : ∀ y ∈ sc.names, y.2 = .free → ∃ c, X.env.cells.lookup y.1 = some c := fun y hy e =>
  (L.fr y hy e).elim (fun k => ok.has _ (.inl k)) (fun k => ok.has _ (.inr k))
/-- into the lambda's body -/
theorem lam_startD {A : Around} {ou : List PySem.Env} {E : XK} {f c' : Addr} {h1 : Heap} {tk : Nat} {u : Value} (I : Inv X pz σ H s) (L : LamD X.env.scope X.N sc a) (e0 : Env0 X.prog X.w X.K X.mg X.base A ou s1 HZ) (hd : A.handled = none)
    (un : Un (frs X.stack) [] H HZ s.heap s1.heap) (hn : h1.Ns s1.heap.objs.size fun y => ([(a, u)] : List (Str × Value)).reverse.lookup y) (kp : ∀ b o, s1.heap.get? b = some o → h1.get? b = some o) :
    Inv (lamCx X A ou s1 HZ E sc f c') [] σ HZ { s1 with heap := h1, toks := tk } := by
  have cmem : ∀ {y c}, (cloFrom X.env.cells sc.names []).lookup y = some c → X.env.cells.lookup y = some c := by
    intro y c e
    rcases cloFrom_mem (PySem.mem_of_lookup e) with z | ⟨z1, z2⟩
    · cases z
    · obtain ⟨c1, q⟩ := L.has I.ok _ z1 rfl
      have q : X.env.cells.lookup y = some c1 := q
      have q2 : c = c1 := by
        rw [z2, q] <;> rfl
      rw [q2]
      exact q
  have clook : ∀ {y}, sc.names.lookup y = some .free → ∃ c, (cloFrom X.env.cells sc.names []).lookup y = some c := by
    intro y e
    exact mem_lookup (cloFrom_has (cells := X.env.cells) (acc := []) (show (y, NameKind.free) ∈ sc.names from PySem.mem_of_lookup e))
  have cellKept : ∀ {c : Addr} {v : Option Value}, H c = none → s.heap.IsCell c v → h1.IsCell c v := by
    rintro c v n ⟨o, ho, hdt⟩
    obtain ⟨sl, q⟩ := un.any ho n (by simp)
    exact ⟨_, kp _ _ q, hdt⟩
  have none_ex : ∀ b : Addr, b ∉ (lamCx X A ou s1 HZ E sc f c').ex := by
    intro b z
    exact absurd (show b ∈ ([] : List Addr) from z) (by simp)
  have okk : (lamCx X A ou s1 HZ E sc f c').Ok := by
    refine ⟨e0.mod, L.kind, rfl, rfl, Nat.le_refl _, fun y z c e1 e2 => I.ok.inj y z c (cmem e1) (cmem e2), ?_, ?_, fun _ => hd, Around.frames_deeper e0.frames, .inr ⟨rfl, rfl⟩, fun b z => absurd z (none_ex b), e0.bs, e0.bsz, fun b _ _ => none_ex b, fun b z => absurd z (none_ex b), e0.funs, e0.frf⟩
    · intro y hy
      have hy : sc.names.lookup y = some .cell ∨ sc.names.lookup y = some .free := hy
      rcases hy with q | q
      · exact absurd rfl (L.own _ (PySem.mem_of_lookup q)).1
      · exact clook q
    · intro y c z _
      have z : false = true := z
      cases z
  refine ⟨okk, rfl, e0.bare, Un.kept kp, ⟨_, hn, ?_⟩, ?_, e0.hok.fresh (Nat.le_refl _), ?_, ?_, e0.hok.kept kp, I.len⟩
  · intro i y v e1 e2 e3
    have e1 : X.N[i]? = some y := e1
    have e3 : Vis sc y := e3
    rcases e3 with q | q | q
    · exact absurd (List.mem_of_getElem? e1) ((L.own _ (PySem.mem_of_lookup q)).2 rfl)
    · exact absurd rfl (L.own _ (PySem.mem_of_lookup q)).1
    · obtain ⟨m, hm, hl⟩ := I.loc
      have vs : Vis X.env.scope y := (L.fr _ (PySem.mem_of_lookup q) rfl).elim (fun k => .inr (.inl k)) fun k => .inr (.inr k)
      obtain ⟨w', rv, lk⟩ := hl i y v e1 e2 vs
      obtain ⟨c2, e4⟩ := clook q
      have c1 := cmem e4
      refine ⟨w', rv, .inr ⟨.inr q, c2, e4, ?_⟩⟩
      rcases lk with ⟨k, _⟩ | ⟨_, c3, e5, z⟩
      · have k : X.env.scope.names.lookup y = some .local := k
        rcases L.fr _ (PySem.mem_of_lookup q) rfl with k2 | k2 <;> · rw [show X.env.scope.names.lookup y = _ from k2] at k; cases k
      · rw [c1] at e5
        cases e5
        exact cellKept (I.freeC y _ c1) z
  · intro y c e
    obtain ⟨w', z⟩ := I.cell y c (cmem e)
    exact ⟨w', cellKept (I.freeC y c (cmem e)) z⟩
  · intro y c e
    obtain ⟨v, o, ho, hdt⟩ := I.cell y c (cmem e)
    exact un.free c o ho (I.freeC y c (cmem e)) (by simp)
  · intro q hq
    exact absurd (show q ∈ ([] : List (Addr × Obj)) ++ [] from hq) (by simp)
/-- lambda a=d: .., d worth 0 -/
theorem lam_makeD {T : List (Addr × Str)} {c P : Addr} {pa : Arguments} {bd d : Expr} {lp : Pos} {Q : Value → Shared → Prop} (I : Inv X pz σ H s) (B : TabB X.base X.mg c P) (hc : X.env.code = .ref c)
    (mT : (P, X.env.qual ++ "<lambda>") ∈ T) (uT : ∀ p ∈ T, p.1 = P → p.2 = X.env.qual ++ "<lambda>") (tT : Tabs T H) (e1 : pa.defaults = [d]) (e2 : pa.kw_defaults = []) (hd0 : PE X d (tC (.int 0))) (fr : ∀ y ∈ sc.names, y.2 = .free → ∃ c, X.env.cells.lookup y.1 = some c)
    (k : ∀ (f c' t0 : Addr) (pm ctv doc u : Value) (H1 : Hp) (s1 : Shared), Inv X pz σ H1 s1 → ExtT H H1 → Tabs T H1 →
      s1.heap.get? f = some (PySem.W.kdv_obj "<lambda>" (X.env.qual ++ "<lambda>") pa (.expr bd) sc (cloFrom X.env.cells sc.names []) (.ref t0) doc pm c' ctv) → H1 f = none → f ∉ frs X.stack →
      s1.heap.get? t0 = some (PySem.W.kdv_tup [u]) → H1 t0 = none → t0 ∉ frs X.stack → H1 c' = some (CodeO c' (X.env.qual ++ "<lambda>")) → Q (.ref f) s1) :
    wpAny (model X.prog X.w) X.A (eval (.Lambda pa bd sc lp) X.env) Q X.xe s := by
  refine PySem.W.kdv_lam (by rw [e1]; rfl) e2 ?_
  rw [e1]
  refine PySem.W.kdv_all1 (thn (hd0.run pz s σ H (fun v H1 => v = .int 0 ∧ H1 = H) I ⟨rfl, rfl⟩) fun u s0 ⟨v, H0, J0, ru, ev, eH⟩ => ?_)
  rw [eH] at J0
  refine PySem.W.kdv_all0 ?_
  rw [makeFunction_eq]
  simp only [List.zip_nil_right, List.filterMap_nil, List.isEmpty_nil, if_true, pure_bind, List.isEmpty_cons, Bool.false_eq_true, if_false]
  refine wpAny_bind (wpAny_newTextTuple ?_)
  have g0 : (s0.heap.push (PySem.W.kdv_tup [u])).get? s0.heap.objs.size = some (PySem.W.kdv_tup [u]) := Heap.get?_push_size _ rfl
  have J1 : Inv X pz σ H { s0 with heap := s0.heap.push (PySem.W.kdv_tup [u]) } := J0.kept fun b o e => Heap.get?_push_of_some _ e
  have n0 : H s0.heap.objs.size = none := J0.hok.fresh (Nat.le_refl _)
  generalize hq : s0.heap.objs.size = t0 at g0 n0
  have f0 : t0 ∉ frs X.stack := by
    intro z
    rw [← hq] at z
    rcases List.mem_cons.mp (J0.stkSub _ z) with e | e
    · have l := J0.lt
      rw [← e] at l
      exact Nat.lt_irrefl _ l
    · exact J0.nofs (Nat.le_refl _) e
  have e00 : ({ s0 with heap := s0.heap.push (PySem.W.kdv_tup [u]) } : Shared).heap.get? t0 = some (PySem.W.kdv_tup [u]) := g0
  have s00 : t0 < ({ s0 with heap := s0.heap.push (PySem.W.kdv_tup [u]) } : Shared).heap.objs.size := Heap.lt_size g0
  show wpAny _ _ (makeTail "<lambda>" (X.env.qual ++ "<lambda>") pa (.expr bd) sc X.env (.ref t0) .none none lp lp.line) Q X.xe { s0 with heap := s0.heap.push (PySem.W.kdv_tup [u]) }
  have I2 := J1
  revert I2 e00 s00
  generalize ({ s0 with heap := s0.heap.push (PySem.W.kdv_tup [u]) } : Shared) = s2
  intro e00 s00 I2
  obtain ⟨qs, eP, tr, am⟩ := tT _ mT
  have gP : s2.heap.get? P = some { cls := .none, data := .fields qs } := I2.hok P _ eP
  have nt : t0 ≠ P := fun z => by rw [z, gP] at e00; cases e00
  have far : ∀ g, s2.heap.objs.size ≤ g → g ∉ frs X.stack := fun g lg z => by
    rcases List.mem_cons.mp (I2.stkSub g z) with e | e
    · have l := I2.lt
      rw [← e] at l
      exact Nat.lt_irrefl _ (Nat.lt_of_lt_of_le l lg)
    · exact I2.nofs lg e
  cases eA : codeAmong lp qs.toList with
  | some cv =>
    obtain ⟨c', rfl, co⟩ := am lp cv eA
    refine PySem.W.kdv_makeTailHit (mg := X.mg) (c := c) (P := P) (ps := qs) (closure_ok fr) I2.ok.glob (I2.mod.glob.keeps I2.bk) hc (B.code.keeps I2.bk) gP tr eA (B.bm.keeps I2.bk) fun ctv doc hh tk xx sz => ?_
    have J : Inv X pz σ H { s2 with heap := hh.push (PySem.W.kdv_obj "<lambda>" (X.env.qual ++ "<lambda>") pa (.expr bd) sc (cloFrom X.env.cells sc.names []) (.ref t0) doc ((X.mg "__name__").getD .none) c' ctv), toks := tk } := I2.kept fun b o e => Heap.get?_push_of_some _ (xx b o e)
    exact k hh.objs.size c' t0 ((X.mg "__name__").getD .none) ctv doc u H _ J ⟨ExtN.refl H, fun b ps e => ⟨ps, e⟩⟩ tT (Heap.get?_push_size _ rfl) (I2.hok.fresh sz) (far _ sz) (Heap.get?_push_of_some _ (xx _ _ e00)) n0 f0 co
  | none =>
    refine PySem.W.kdv_makeTail (mg := X.mg) (c := c) (P := P) (ps := qs) (closure_ok fr) I2.ok.glob (I2.mod.glob.keeps I2.bk) hc (B.code.keeps I2.bk) gP tr eA B.gP (B.bm.keeps I2.bk) fun c' ctv doc hh tk xx ge lt rec tb => ?_
    obtain ⟨c2, oc, vs, t, e2, g1, g2, g3⟩ := rec
    cases e2
    have sz : s2.heap.objs.size ≤ hh.objs.size := Nat.le_trans ge (Nat.le_of_lt lt)
    have nC : H c' = none := I2.hok.fresh ge
    have J := inv_table (t' := tk) (more := #[rawInt lp.line, rawInt lp.col, .ref c']) (h' := hh.push (PySem.W.kdv_obj "<lambda>" (X.env.qual ++ "<lambda>") pa (.expr bd) sc (cloFrom X.env.cells sc.names []) (.ref t0) doc ((X.mg "__name__").getD .none) c' ctv)) I2 eP
      (fun b o n e => Heap.get?_push_of_some _ (xx b o n e)) (Heap.get?_push_of_some _ tb) ge ⟨oc, vs, t, Heap.get?_push_of_some _ g1, g2, g3⟩
    have nPc : P ≠ c' := ne_of_none eP nC
    have tc : t0 ≠ c' := Nat.ne_of_lt (Nat.lt_of_lt_of_le s00 ge)
    have eT : upd (upd H P (.tbl (qs ++ #[rawInt lp.line, rawInt lp.col, .ref c']))) c' (CodeO c' (X.env.qual ++ "<lambda>")) P = some (.tbl (qs ++ #[rawInt lp.line, rawInt lp.col, .ref c'])) := by rw [upd_ne nPc, upd_same]
    have xN : ExtN H (upd (upd H P (.tbl (qs ++ #[rawInt lp.line, rawInt lp.col, .ref c']))) c' (CodeO c' (X.env.qual ++ "<lambda>"))) := fun b o e n => by
      rw [upd_ne (ne_of_none e nC), upd_ne (fun z => n qs (Option.some.inj (e.symm.trans (by rw [z]; exact eP))))]
      exact e
    have snoc : (qs ++ #[rawInt lp.line, rawInt lp.col, .ref c']).toList = qs.toList ++ [rawInt lp.line, rawInt lp.col, .ref c'] := by simp
    refine k hh.objs.size c' t0 ((X.mg "__name__").getD .none) ctv doc u _ _ J ⟨xN, fun b ps e => ?_⟩ (fun p hp => ?_) (Heap.get?_push_size _ rfl) ?_ (far _ sz) (Heap.get?_push_of_some _ (xx _ _ nt e00)) (by rw [upd_ne tc, upd_ne nt]; exact n0) f0 upd_same
    · by_cases hb : b = P
      · rw [hb]; exact ⟨_, eT⟩
      · exact ⟨ps, by rw [upd_ne (ne_of_none e nC), upd_ne hb]; exact e⟩
    · by_cases hb : p.1 = P
      · rw [uT p hp hb, hb]
        refine ⟨_, eT, by rw [snoc]; exact PySem.TriplesOk_snoc _ _ _ _ tr, fun q cv hcv => ?_⟩
        rw [snoc] at hcv
        rcases among_app _ tr hcv with z | z
        · obtain ⟨c0, e1, e2⟩ := am q cv z
          exact ⟨c0, e1, xN _ _ e2 codeO_ne⟩
        · exact ⟨c', z, upd_same⟩
      · obtain ⟨rs, a1, a2, a3⟩ := tT p hp
        refine ⟨rs, by rw [upd_ne (ne_of_none a1 nC), upd_ne hb]; exact a1, a2, fun q cv hcv => ?_⟩
        obtain ⟨c0, e1, e2⟩ := a3 q cv hcv
        exact ⟨c0, e1, xN _ _ e2 codeO_ne⟩
    · rw [upd_ne (Nat.ne_of_gt lt), upd_ne (Nat.ne_of_gt (Nat.lt_of_lt_of_le (Heap.lt_size gP) sz))]
      exact I2.hok.fresh sz
/-- y(), in the def that got such a lambda -/
theorem actD {CXh : CXT} {Eh : XK} {Nh : List Str} {qh : Str} {sh : Scope} {g f c' t0 : Addr} {cdh pm ctv doc u0 : Value} {pa : Arguments} {bd : Expr} {k i : Nat} {y : Str} {pn : List (Addr × Obj)} {xe : Value → Shared → Prop} {W : WX} {tb : XK → TE} {p1 p2 : Pos}
    (I : Inv X pz σ H s) (L : LamD X.env.scope X.N sc a) (hf : s.heap.get? f = some (PySem.W.kdv_obj "<lambda>" (X.env.qual ++ "<lambda>") pa (.expr bd) sc (cloFrom X.env.cells sc.names []) (.ref t0) doc pm c' ctv)) (nf : H f = none) (ff : f ∉ frs X.stack)
    (ht : s.heap.get? t0 = some (PySem.W.kdv_tup [u0])) (nt : H t0 = none) (ft : t0 ∉ frs X.stack)
    (hb : ∀ s2 : Shared, s2.heap.get? t0 = some (PySem.W.kdv_tup [u0]) → BindsTo s2 (PySem.W.kdv_fn "<lambda>" (X.env.qual ++ "<lambda>") pa (.expr bd) sc (cloFrom X.env.cells sc.names []) (.ref t0) doc pm (.ref c') ctv) ⟨[], []⟩ [(a, u0)])
    (tk : Takes ((cxOf CXh X.prog X.w X.K X.mg X.base Nh qh sh g cdh X.A X.stack s H Eh).tr pn xe) W) (hr : Room (k + 1) (X.A.deeper (envOfC qh sh s.heap.objs.size g cdh)))
    (hbd : ∀ (E : XK) (A : Around) (outer : List PySem.Env) (s : Shared) (H : Hp), Room k (A.deeper (lamEnv X sc s.heap.objs.size f c')) → PE (lamCx X A outer s H E sc f c') bd (tb E))
    (hN : Nh[i]? = some y) (hv : Vis sh y) (hd : (y == ("__debug__" : Str)) = false := by decide) (hcd : (y == ("__classdict__" : Str)) = false := by decide) :
    PE ((cxOf CXh X.prog X.w X.K X.mg X.base Nh qh sh g cdh X.A X.stack s H Eh).tr pn xe) (.Call (.Name y p1) [] [] p2)
      (fun σY HY Q => σY[i]? = some (some (.ref f)) ∧ HY c' = some (CodeO c' (X.env.qual ++ "<lambda>")) ∧ ∃ E : XK, (∀ cls d H', E cls d H' → W cls d σY H') ∧ tb E σ HY Q) := by
  refine ⟨fun pinsY sY σY HY Q IY h => ?_⟩
  obtain ⟨hs, hco, E, hE, hT0⟩ := h
  have nm := (pe_var (X := (cxOf CXh X.prog X.w X.K X.mg X.base Nh qh sh g cdh X.A X.stack s H Eh).tr pn xe) (pos := p1) (i := i) hN hv hd hcd).run pinsY sY σY HY (fun v H1 => v = .ref f ∧ H1 = HY) IY ⟨.ref f, hs, rfl, rfl⟩
  refine wpAny_Call_Name_kw (thn nm fun u s1 ⟨v, H1, J1, r1, q1⟩ => ?_)
  obtain ⟨rfl, rfl⟩ := q1
  obtain rfl : u = Value.ref f := r1
  have of2 : s1.heap.get? f = some (PySem.W.kdv_obj "<lambda>" (X.env.qual ++ "<lambda>") pa (.expr bd) sc (cloFrom X.env.cells sc.names []) (.ref t0) doc pm c' ctv) := J1.base.keep f _ hf nf ff (fun z => nomatch (show f ∈ ([] : List Addr) from z))
  have ot2 : s1.heap.get? t0 = some (PySem.W.kdv_tup [u0]) := J1.base.keep t0 _ ht nt ft (fun z => nomatch (show t0 ∈ ([] : List Addr) from z))
  have un : Un (frs X.stack) [] H H1 s.heap s1.heap := J1.base
  obtain ⟨⟨oc, vs, t, g1, g2, g3⟩, _, _⟩ := J1.hok c' _ hco
  refine PySem.W.callWith_F0 ⟨_, _, _, _, of2⟩ ?_
  have run0 : codeAny (model X.prog X.w) (X.A.deeper (envOfC qh sh s.heap.objs.size g cdh)) (.call (.ref f) ⟨[], []⟩) (CR (L2.CX X.prog X.w) (envOfC qh sh s.heap.objs.size g cdh :: X.stack) X.prog X.w H1 s1 Q E) s1 := by
    refine PySem.W.kla_callFunE hr.depth of2 rfl L.co L.gen rfl ⟨c', oc, vs, t, rfl, g1, g2, g3⟩ (hb s1 ot2 _ _ _ _ ?_)
    refine wpAny_newFunctionEnv (fun y hy0 => (L.own y hy0).1) (fun y hy0 => by rw [List.mem_singleton.mp hy0]; exact L.loc) (fun h2 hnt hsc => ⟨J1.nolimit.fresh _ hsc, ?_⟩) L.kind
    show codeAny _ _ (.expr bd (lamEnv X sc s1.heap.objs.size f c')) _ _
    have J : Inv (lamCx X (X.A.deeper (envOfC qh sh s.heap.objs.size g cdh)) (envOfC qh sh s.heap.objs.size g cdh :: X.stack) s1 H1 E sc f c') [] σ H1 { s1 with heap := h2, toks := s1.toks + ([(a, u0)] : List (Str × Value)).length } :=
      lam_startD I L J1.env0 hr.hd un hnt fun b o e => hsc.extBut b o (Nat.ne_of_lt (Heap.lt_size e)) (Heap.get?_push_of_some _ e)
    refine PySem.W.kla_codeExpr (wpAny_mono ((hbd E _ _ s1 H1 (hr.deeper _)).run [] _ _ H1 Q J hT0) (fun v s' gq => ?_) fun e s' gq => gq)
    obtain ⟨w', H', J', rv, q⟩ := gq
    exact ⟨w', H', J'.os, J'.bare, J'.base, J'.hok, rv, q⟩
  refine wpAny_call (codeAny_mono run0 fun r s' gq => ?_)
  cases r with
  | error e => exact tk e s' (XE.of_call J1 hE gq)
  | ok fl =>
    cases fl with
    | ret u => exact J1.after gq
    | next => exact gq.elim
    | brk => exact gq.elim
    | cont => exact gq.elim
end
theorem pe_lamD {X : Cx} {T : List (Addr × Str)} {TT : (XK → Hp → VK → Prop) → Hp → VK → Prop} {x y a : Str} {g c P : Addr} {k : Nat} {pg : Arguments} {bg : List Stmt} {sh : Scope} {dV kV doc pm cdv ct oc : Value} {an od : Option Addr} {osl : Array (Option Value)} {Nh : List Str}
    {pa : Arguments} {bd d : Expr} {sc : Scope} {t : XK → TE} {p lp pos : Pos} (hg : Gl X x) (hm : X.mg x = some (.ref g)) (hk : PySem.W.keepIn X.K (.ref g) = true)
    (lk : X.K.lookup g = some ⟨oc, od, .func (PySem.W.fnOf x x pg bg sh dV kV doc pm an cdv ct), osl⟩) (cg : PySem.W.codeIn X.K cdv x = true) (hb : L2.Binds X.K (PySem.W.fnOf x x pg bg sh dV kV doc pm an cdv ct) [y] []) (Sg : FnScope Nh [y] sh) (n0 : Nh[0]? = some y) (va : Vis sh y)
    (hG : GivesE X Nh x sh g cdv bg y (X.env.qual ++ "<lambda>") TT) (B : TabB X.base X.mg c P) (hc : X.env.code = .ref c) (mT : (P, X.env.qual ++ "<lambda>") ∈ T) (uT : ∀ p ∈ T, p.1 = P → p.2 = X.env.qual ++ "<lambda>") (hr : Room (k + 2) X.A)
    (L : LamD X.env.scope X.N sc a) (e1 : pa.defaults = [d]) (e2 : pa.kw_defaults = []) (hd0 : PE X d (tC (.int 0)))
    (bi : ∀ (q : Str) (cl : List (Str × Addr)) (t0 : Addr) (doc pm cv ctv u : Value) (s2 : Shared), s2.heap.get? t0 = some (PySem.W.kdv_tup [u]) → BindsTo s2 (PySem.W.kdv_fn "<lambda>" q pa (.expr bd) sc cl (.ref t0) doc pm cv ctv) ⟨[], []⟩ [(a, u)])
    (hbd : ∀ (A : Around) (outer : List PySem.Env) (s : Shared) (H : Hp) (E : XK) (f c' : Addr), Room k (A.deeper (lamEnv X sc s.heap.objs.size f c')) → PE (lamCx X A outer s H E sc f c') bd (t E))
    (hdb : (x == ("__debug__" : Str)) = false := by decide) (hd : (y == ("__debug__" : Str)) = false := by decide) (hcd : (y == ("__classdict__" : Str)) = false := by decide) : PE X (.Call (.Name x p) [.Lambda pa bd sc lp] [] pos) (tLamE T TT t) := by
  refine ⟨fun pz s σ H Q I h => ?_⟩
  obtain ⟨tT, h⟩ := h
  refine wpAny_Call_Name_kw (ld_glob I hg hm ?_ hdb)
  refine PySem.W.callWith_K (h₀ := X.base) I.ok.mod.kin hk ?_ (by rfl) (by rfl)
  show wpAny _ _ (spliced ((false, eval (.Lambda pa bd sc lp) X.env) :: backTo pos (starEach [] X.env))) _ _ s
  refine Calls.spliced_cons (lam_makeD I B hc mT uT tT e1 e2 hd0 (L.has I.ok) fun f c' t0 pm' ctv doc' u H1 s1 J1 xT T1 hf nf ff h0 h0n h0f co => ?_)
  refine Calls.spliced_nil ⟨J1.kIn, ?_⟩
  have run0 : codeAny (model X.prog X.w) X.A (.call (.ref g) ⟨[.ref f], []⟩) (CR C8.CX0 X.stack X.prog X.w H1 s1 Q C8.E0) s1 := by
    refine run_ofS (N := Nh) (ps := [y]) (us := [.ref f]) (vs := [.ref f]) lk cg Sg hr J1.env0 (hb s1 [.ref f] J1.kIn rfl) (.cons rfl .nil) rfl fun hr' => ?_
    obtain ⟨t2, ht2, hq2⟩ := hG f c' s1 H1 Q (fun E H' Q' => t E σ H' Q') (fun W pn xe p1 p2 tk => actD (i := 0) J1 L hf nf ff h0 h0n h0f (fun s2 e => bi _ _ _ _ _ _ _ _ s2 e) tk hr' (fun E A outer s H hr2 => hbd A outer s H E f c' hr2) n0 va hd hcd) (hr'.mono (Nat.le_add_left 1 k)) co (h H1 xT T1)
    exact ⟨t2, ht2.nox, hq2⟩
  refine wpAny_call (codeAny_mono run0 fun r s2 gq => ?_)
  cases r with
  | error e => exact (show False from gq).elim
  | ok fl =>
    cases fl with
    | ret u => exact J1.after gq
    | next => exact gq.elim
    | brk => exact gq.elim
    | cont => exact gq.elim
/-! ### over plain data -/
theorem dx_lam_of {S : Ent} {X : Cx} {F : Fl} {Tb : Tm} {x : Str} {k : Nat} {pa : Arguments} {bd : Expr} {sc : Scope} {p lp pos : Pos}
    (mk : ∀ t : XK → TE, (∀ (A : Around) (outer : List PySem.Env) (s0 : Shared) (H0 : Hp) (E : XK) (f c' : Addr), Room k (A.deeper (LamX.lamEnv X sc s0.heap.objs.size f c')) → PE (LamX.lamCx X A outer s0 H0 E sc f c') bd (t E)) → PE X (.Call (.Name x p) [.Lambda pa bd sc lp] [] pos) (tLamE S.G.T (TTd S.G F) t))
    (hbd : ∀ (A : Around) (outer : List PySem.Env) (s0 : Shared) (H0 : Hp) (E : XK) (f c' : Addr), Room k (A.deeper (LamX.lamEnv X sc s0.heap.objs.size f c')) → DE S (LamX.lamCx X A outer s0 H0 E sc f c') bd Tb) : DE S X (.Call (.Name x p) [.Lambda pa bd sc lp] [] pos) (wLam F Tb) := ⟨fun W tk => by
  let t : XK → TE := fun E σ H Q => ∀ A outer s0 H0 f c' (hr : Room k (A.deeper (LamX.lamEnv X sc s0.heap.objs.size f c'))), Classical.choose ((hbd A outer s0 H0 E f c' hr).run _ takes_lam) σ H Q
  have pb : ∀ (A : Around) (outer : List PySem.Env) (s0 : Shared) (H0 : Hp) (E : XK) (f c' : Addr), Room k (A.deeper (LamX.lamEnv X sc s0.heap.objs.size f c')) → PE (LamX.lamCx X A outer s0 H0 E sc f c') bd (t E) := fun A outer s0 H0 E f c' hr =>
    ⟨fun pins s σ H Q I h => (Classical.choose_spec ((hbd A outer s0 H0 E f c' hr).run _ takes_lam)).1.run pins s σ H Q I (h A outer s0 H0 f c' hr)⟩
  refine ⟨_, mk t pb, fun Z env σ H Q E Q' R hT k x => ⟨R.tabs, fun H1 xt t1 => ?_⟩⟩
  have kp1 : Kp Z.h H H1 := fun b o e _ => by
    by_cases n : NT o
    · exact .of (xt.1 b o e n)
    · have : ∃ ps, o = .tbl ps := Classical.not_forall_not.mp fun z => n z
      obtain ⟨ps, rfl⟩ := this
      obtain ⟨ps', e'⟩ := xt.2 b ps e
      exact ⟨_, e', fun n => absurd rfl (n ps)⟩
  have hd1 : Hd Z.O Z.h H1 := fun a ha => by
    obtain ⟨i1, c, cells, q, bg, st, cnt, e1, nc, e2, r⟩ := R.hnd a ha
    exact ⟨i1, c, cells, q, bg, st, cnt, xt.1 _ _ e1 (fun _ z => by cases z), nc, xt.1 _ _ e2 (fun _ z => by cases z), r⟩
  have R1 := R.step kp1 hd1 t1
  have tr1 : Tr Z H Z H1 := ⟨kp1, fun _ h => .inl h, fun _ h => h, fun _ h => .inl h, rfl⟩
  obtain ⟨Rt, trt⟩ := R1.trim
  have tr2 := Tr.trans R1 tr1 trt
  refine ⟨⟨trimO S Z env σ, Z.h, Z.B⟩, _, _, Rt.oin, Rt.hnd, Rt.tabs, hT, fun d v H' kp hd tt r q => ?_, fun O2 H' Qd' Ed' Q2 E2 s1 s2 s3 s4 s5 s6 hq k1 k2 => ?_⟩
  · exact k _ env v d H' (Rt.step kp hd tt) (Tr.trans Rt tr2 ⟨kp, fun _ h => .inl h, fun _ h => h, fun _ h => .inl h, rfl⟩) r q
  · intro A outer s0 H0 f c' hr'
    have Ru := Rt.under s1 s2 s3 s4 s5 s6
    have big : ∀ {Z3 : Zs} {H3 : Hp}, Rel S Z3 env σ H3 → Z3.B = O2.filter (fun b => decide (b ∉ trimO S Z env σ)) ++ Z.B → ∀ b ∈ O2, b ∈ Z3.O := fun {Z3 H3} R3 eB b hb => by
      by_cases hz : b ∈ trimO S Z env σ
      · rcases (mem_trim.mp hz).2 with q | q | q | q
        · exact R3.sub b q
        · exact (R3.res b (by rw [eB]; exact List.mem_append_right _ q)).ino
        · exact R3.hin b (by rw [R3.hsub, ← R.hsub]; exact q)
        · apply Classical.byContradiction
          intro nb
          exact q fun j y e o s => by
            obtain ⟨b', es, q', _⟩ := (R3.slots j y e).to_own o
            rw [s] at es; cases es
            exact nb q'
      · exact (R3.res b (by rw [eB]; exact List.mem_append_left _ (List.mem_filter.mpr ⟨hb, decide_eq_true hz⟩))).ino
    have hdO : ∀ {Z3 : Zs} {H3 : Hp}, Rel S Z3 env σ H3 → Z3.B = O2.filter (fun b => decide (b ∉ trimO S Z env σ)) ++ Z.B → Hd O2 Z.h H3 := fun {Z3 H3} R3 eB a ha => by
      have hh : Z3.h = some a := by rw [R3.hsub, ← R.hsub]; exact ha
      have i1 : a ∈ O2 := s1 a (mem_trim.mpr ⟨R.hin a ha, .inr (.inr (.inl ha))⟩)
      exact (R3.hnd a hh).mono i1 (fun c nc _ z => nc (big R3 eB c z)) fun _ _ q _ => q
    have same : ∀ {Z3 : Zs} {H3 : Hp}, Rel S Z3 env σ H3 → Z3.B = O2.filter (fun b => decide (b ∉ trimO S Z env σ)) ++ Z.B → Same (vis Z3.O H3) (vis O2 H3) := fun {Z3 H3} R3 eB b o e => by
      obtain ⟨h1, h2⟩ := vis_some e
      exact vis_out (fun z => h1 (big R3 eB b z)) h2 (vis_nt e)
    refine (Classical.choose_spec ((hbd A outer s0 H0 E2 f c' hr').run _ takes_lam)).2 _ env σ H' _ _ _ Ru hq (fun Z3 env3 v d H3 R3 t3 r3 h3 => ?_) fun Z3 env3 cls dd er H3 R3 v3 eo h3 => ?_
    · obtain ⟨rfl, h3⟩ := h3
      exact k1 d v H3 t3.keep (hdO R3 t3.bb) R3.tabs (r3.mono (same R3 t3.bb) fun a ha => by rw [R3.hsub, ← R.hsub] at ha; exact ha) h3
    · obtain ⟨rfl, h3⟩ := h3
      obtain ⟨C, g1, g2, g3⟩ := eo
      exact k2 er cls dd H3 v3.keep (hdO R3 v3.bb) R3.tabs ⟨C, g1, g2, g3.mono (same R3 v3.bb) fun a ha => by rw [R3.hsub, ← R.hsub] at ha; exact ha⟩ h3⟩
theorem bi_of {pa : Arguments} {bd : Expr} {sc : Scope} {a : Str} {q : Str} {cl : List (Str × Addr)} {t0 : Addr} {doc pm cv ctv u : Value} {s2 : Shared} {k : Option (Array Value) → Sem (List (Str × Value))} (e : s2.heap.get? t0 = some (PySem.W.kdv_tup [u]))
    (h1 : bindArgs (PySem.W.kdv_fn "<lambda>" q pa (.expr bd) sc cl (.ref t0) doc pm cv ctv) ⟨[], []⟩ = seqItems? (.ref t0) >>= k) (h2 : k (some #[u]) = pure [(a, u)]) : BindsTo s2 (PySem.W.kdv_fn "<lambda>" q pa (.expr bd) sc cl (.ref t0) doc pm cv ctv) ⟨[], []⟩ [(a, u)] :=
  BindsTo.of_defaults rfl e rfl h1 h2
theorem dx_lamFD {S : Ent} {X : Cx} {F : Fl} {Tb : Tm} {x a : Str} {c P : Addr} {k : Nat} {pa : Arguments} {bd d : Expr} {sc : Scope} {p lp pos : Pos} (LF : LamF X.prog X.w S.G X.mg X.base x F) (hK : X.K = S.G.K) (B : LamX.TabB X.base X.mg c P) (hc : X.env.code = .ref c)
    (mT : (P, X.env.qual ++ "<lambda>") ∈ S.G.T) (uT : ∀ p ∈ S.G.T, p.1 = P → p.2 = X.env.qual ++ "<lambda>") (hr : Room (k + 2) X.A) (L : LamD X.env.scope X.N sc a) (hd0 : PE X d (tC (.int 0)))
    (hbd : ∀ (A : Around) (outer : List PySem.Env) (s0 : Shared) (H0 : Hp) (E : XK) (f c' : Addr), Room k (A.deeper (LamX.lamEnv X sc s0.heap.objs.size f c')) → DE S (LamX.lamCx X A outer s0 H0 E sc f c') bd Tb)
    (hg : Gl X x := by rfl) (e1 : pa.defaults = [d] := by rfl) (e2 : pa.kw_defaults = [] := by rfl)
    (bi : ∀ (q : Str) (cl : List (Str × Addr)) (t0 : Addr) (doc pm cv ctv u : Value) (s2 : Shared), s2.heap.get? t0 = some (PySem.W.kdv_tup [u]) → BindsTo s2 (PySem.W.kdv_fn "<lambda>" q pa (.expr bd) sc cl (.ref t0) doc pm cv ctv) ⟨[], []⟩ [(a, u)] := by intro _ _ _ _ _ _ _ _ _ e; exact bi_of e rfl rfl)
    (hdb : (x == ("__debug__" : Str)) = false := by decide) : DE S X (.Call (.Name x p) [.Lambda pa bd sc lp] [] pos) (wLam F Tb) := by
  obtain ⟨g, y, pg, bg, sg, dV, kV, doc, pm, cdv, ct, oc, an, od, osl, Ng, h1, h2, h3, h4, h5, h6, h7, h8, h9, h10, h11⟩ := LF.ex
  rw [← hK] at h2 h3 h4 h5
  exact dx_lam_of (fun t pb => pe_lamD (T := S.G.T) hg h1 h2 h3 h4 h5 h6 h7 h8 (h11 X _ rfl rfl hK rfl rfl) B hc mT uT hr L e1 e2 hd0 bi pb hdb h9 h10) hbd
end DV

set_option Elab.async false
set_option linter.all false
set_option maxRecDepth 100000
/-! DV23: the texts that repr gives may stand in a comparison. -/
namespace DV
open PySem PySem.Spec PyProof.Rows L2
theorem so_app (x y : Str) : PyData.strOk (x ++ y) = (PyData.strOk x && PyData.strOk y) := by
  show ((x.cps ++ y.cps).all (· < 0x110000)) = _
  unfold PyData.strOk
  rw [Array.all_append]
theorem so_of (s : String) : PyData.strOk (Str.ofString s) = true := by
  rw [Str.ofString_eq_toList]
  unfold PyData.strOk
  rw [Array.all_eq_true']
  intro n hn
  obtain ⟨c, _, rfl⟩ := List.mem_map.mp (by simpa using hn)
  have h := c.valid
  rw [decide_eq_true_eq]
  rcases h with h | ⟨_, h⟩
  · have h : c.toNat < 0xd800 := h
    omega
  · exact h
theorem so_from : ∀ (ts : List Str) (k : Nat) (acc : Str), PyData.strOk acc = true → (∀ t ∈ ts, PyData.strOk t = true) → PyData.strOk (textFrom k acc ts) = true
  | [], _, _, h, _ => h
  | t :: ts, k, acc, h, hs => by
    refine so_from ts (k + 1) _ ?_ fun u hu => hs u (List.mem_cons_of_mem _ hu)
    rw [so_app, so_app, h, hs t List.mem_cons_self]
    have : PyData.strOk ((if k > 0 then ", " else "" : String) : Str) = true := so_of _
    rw [this]; rfl
theorem so_list {ts : List Str} (h : ∀ t ∈ ts, PyData.strOk t = true) : PyData.strOk (listText ts) = true := by
  unfold listText
  rw [so_app, so_from ts 0 _ (so_of _) h, so_of]; rfl
theorem so_join : ∀ {ts : List Str}, (∀ t ∈ ts, PyData.strOk t = true) → PyData.strOk (Str.join ", " ts) = true
  | [], _ => so_of ""
  | [x], h => h x List.mem_cons_self
  | x :: y :: r, h => by
    show PyData.strOk (x ++ ", " ++ Str.join ", " (y :: r)) = true
    rw [so_app, so_app, h x List.mem_cons_self, so_join fun t ht => h t (List.mem_cons_of_mem _ ht)]
    have : PyData.strOk ((", " : String) : Str) = true := so_of _
    rw [this]; rfl
theorem so_tuple {ts : List Str} (h : ∀ t ∈ ts, PyData.strOk t = true) : PyData.strOk (tupleText ts) = true := by
  unfold tupleText
  rw [so_app, so_app, so_join h, so_of, so_of]; rfl
mutual
/-- the texts within are such -/
def pyT : D → Bool
  | .str s => PyData.strOk (reprText s)
  | .tup xs => pyTL xs
  | .lst xs => pyTL xs
  | _ => true
def pyTL : List D → Bool
  | [] => true
  | x :: xs => pyT x && pyTL xs
end
mutual
theorem so_py : ∀ {d : D}, pyT d = true → PyData.strOk (py d).shown = true
  | .non, _ => by simp only [py, PyData.shown]; exact so_of _
  | .bl b, _ => by simp only [py, PyData.shown]; split <;> exact so_of _
  | .int i, _ => by simp only [py, PyData.shown]; exact so_of _
  | .str s, h => by simp only [py, PyData.shown]; simpa only [pyT] using h
  | .tup xs, h => by
    simp only [pyT] at h
    simp only [py, PyData.shown]
    exact so_tuple (so_pyL h)
  | .lst xs, h => by
    simp only [pyT] at h
    simp only [py, PyData.shown]
    exact so_list (so_pyL h)
  | .dct _, _ => by simp only [py, PyData.shown]; exact so_of _
  | .obj _ _, _ => by simp only [py, PyData.shown]; exact so_of _
  | .frz _, _ => by simp only [py, PyData.shown]; exact so_of _
  | .hand, _ => by simp only [py, PyData.shown]; exact so_of _
  | .fn _, _ => by simp only [py, PyData.shown]; exact so_of _
theorem so_pyL : ∀ {ds : List D}, pyTL ds = true → ∀ t ∈ PyData.shownAll (pyL ds), PyData.strOk t = true
  | [], _, t, h => by simp only [pyL, PyData.shownAll] at h; cases h
  | x :: xs, h, t, ht => by
    simp only [pyTL, Bool.and_eq_true] at h
    simp only [pyL, PyData.shownAll, List.mem_cons] at ht
    rcases ht with rfl | ht
    · exact so_py h.1
    · exact so_pyL h.2 t ht
end
/-- repr, and what a comparison of it asks -/
theorem gRepr_l {xs : List D} {Q : D → Prop} (h1 : pyOkL 49 xs) (h2 : pyWL xs + 2 ≤ sizeLine) : gRepr [.lst xs] Q ↔ Q (.str (py (.lst xs)).shown) :=
  ⟨fun h => h.2.2, fun h => ⟨h1, h2, h⟩⟩
theorem gRepr_t {xs : List D} {Q : D → Prop} (h1 : pyOkL 49 xs) (h2 : pyWL xs + 3 ≤ sizeLine) : gRepr [.tup xs] Q ↔ Q (.str (py (.tup xs)).shown) :=
  ⟨fun h => h.2.2, fun h => ⟨h1, h2, h⟩⟩
/-- rows of one kind -/
theorem pyOkL_all {n : Nat} : ∀ {xs : List D}, (∀ x ∈ xs, pyOk n x) → pyOkL n xs
  | [], _ => by simp only [pyOkL]
  | x :: xs, h => by
    simp only [pyOkL]
    exact ⟨h x List.mem_cons_self, pyOkL_all fun y hy => h y (List.mem_cons_of_mem _ hy)⟩
theorem pyTL_all : ∀ {xs : List D}, (∀ x ∈ xs, pyT x = true) → pyTL xs = true
  | [], _ => by simp only [pyTL]
  | x :: xs, h => by
    simp only [pyTL, h x List.mem_cons_self, pyTL_all fun y hy => h y (List.mem_cons_of_mem _ hy), Bool.and_self]
theorem pyWL_le {m : Nat} : ∀ {xs : List D}, (∀ x ∈ xs, pyW x ≤ m) → pyWL xs ≤ xs.length * (m + 2)
  | [], _ => by simp only [pyWL]; omega
  | x :: xs, h => by
    have a := h x List.mem_cons_self
    have b := pyWL_le (m := m) fun y hy => h y (List.mem_cons_of_mem x hy)
    simp only [pyWL, List.length_cons, Nat.succ_mul]
    omega
end DV

set_option Elab.async false
set_option linter.all false
set_option maxRecDepth 100000
/-! DV24: dicts of one's own, whose keys are ints; three names at once. -/
namespace DV
open PySem PySem.Spec PyProof.Rows L2
/-- the items -/
def dI (ks : List (Int × D)) : List (D × D) := ks.map fun p => (D.int p.1, p.2)
def valI (ks : List (Int × D)) (k : Int) : Option D := (ks.find? fun p => decide (p.1 = k)).map (·.2)
def putI (ks : List (Int × D)) (k : Int) (d : D) : List (Int × D) := if (ks.any fun p => decide (p.1 = k)) = true then ks.map (fun p => if p.1 = k then (p.1, d) else p) else ks ++ [(k, d)]
/-- the heap's items and these -/
abbrev KR (G : Pg) (H : Hp) (hh : Option Addr) : List (Key × V) → List (Int × D) → Prop := Paired fun p q => p.1 = Sum.inl q.1 ∧ Rep G H hh p.2 q.2
section
variable {G : Pg} {H : Hp} {hh : Option Addr}
theorem kr_of : ∀ {hk : List (Key × V)} {vs : List V} {ds : List D} {ks : List (Int × D)}, RepL G H hh vs ds → vs = hk.map (·.2) → dI ks = (hk.map fun p => dKey p.1).zip ds → KR G H hh hk ks
  | [], _, _, ks, r, e, e2 => by
    subst e
    cases r
    cases ks with
    | nil => exact .nil
    | cons _ _ => cases e2
  | (k, v) :: hk, _, _, ks, r, e, e2 => by
    subst e
    cases r with
    | cons r1 rs =>
      cases ks with
      | nil => cases e2
      | cons p ks =>
        obtain ⟨i, d⟩ := p
        simp only [dI, List.map_cons, List.zip_cons_cons, List.cons.injEq, Prod.mk.injEq] at e2
        obtain ⟨⟨e3, e4⟩, e5⟩ := e2
        refine .cons ⟨?_, ?_⟩ (kr_of rs rfl e5)
        · cases k with
          | inl j => cases e3; rfl
          | inr s => cases e3
        · rw [e4]; exact r1
theorem kr_to : ∀ {hk : List (Key × V)} {ks : List (Int × D)}, KR G H hh hk ks → RepL G H hh (hk.map (·.2)) (ks.map (·.2)) ∧ dI ks = (hk.map fun p => dKey p.1).zip (ks.map (·.2))
  | _, _, .nil => ⟨.nil, rfl⟩
  | (k, v) :: hk, (i, d) :: ks, .cons a b => by
    obtain ⟨h1, h2⟩ := kr_to b
    obtain ⟨e, r⟩ := a
    have e : k = Sum.inl i := e
    subst e
    refine ⟨.cons r h1, ?_⟩
    simp only [dI, List.map_cons, List.zip_cons_cons] at h2 ⊢
    rw [h2]
    rfl
theorem kr_val : ∀ {hk : List (Key × V)} {ks : List (Int × D)} (k : Int), KR G H hh hk ks → (∀ d, valI ks k = some d → ∃ v, valV hk (Sum.inl k) = some v ∧ Rep G H hh v d) ∧ (valI ks k = none → valV hk (Sum.inl k) = none)
  | _, _, k, .nil => ⟨fun _ e => (by cases e), fun _ => rfl⟩
  | (j, v) :: hk, (i, d) :: ks, k, .cons a b => by
    obtain ⟨e, r⟩ := a
    have e : j = Sum.inl i := e
    subst e
    obtain ⟨h1, h2⟩ := kr_val k b
    by_cases q : i = k
    · subst q
      refine ⟨fun d' e => ⟨v, ?_, ?_⟩, fun e => ?_⟩
      · simp [valV]
      · have : d' = d := by simpa [valI] using e.symm
        rw [this]; exact r
      · simp [valI] at e
    · have n1 : valI ((i, d) :: ks) k = valI ks k := by simp [valI, List.find?_cons, q]
      have n2 : valV ((Sum.inl i, v) :: hk) (Sum.inl k : Key) = valV hk (Sum.inl k) := by simp [valV, List.find?_cons, q]
      rw [n1, n2]
      exact ⟨h1, h2⟩
theorem kr_any : ∀ {hk : List (Key × V)} {ks : List (Int × D)} (k : Int), KR G H hh hk ks → (hk.any fun p => decide (p.1 = (Sum.inl k : Key))) = ks.any fun p => decide (p.1 = k)
  | _, _, _, .nil => rfl
  | (j, v) :: hk, (i, d) :: ks, k, .cons a b => by
    obtain ⟨e, r⟩ := a
    have e : j = Sum.inl i := e
    subst e
    rw [List.any_cons, List.any_cons, kr_any k b]
    congr 1
    exact decide_eq_decide.mpr ⟨fun z => by cases z; rfl, fun z => by have z : i = k := z; rw [z]⟩
theorem kr_map {v : V} {d : D} (r : Rep G H hh v d) : ∀ {hk : List (Key × V)} {ks : List (Int × D)} (k : Int), KR G H hh hk ks → KR G H hh (hk.map fun p => if p.1 = (Sum.inl k : Key) then (p.1, v) else p) (ks.map fun p => if p.1 = k then (p.1, d) else p)
  | _, _, _, .nil => .nil
  | (j, w) :: hk, (i, e) :: ks, k, .cons a b => by
    obtain ⟨e1, r1⟩ := a
    have e1 : j = Sum.inl i := e1
    subst e1
    refine .cons ?_ (kr_map r k b)
    by_cases q : i = k
    · subst q
      dsimp only
      rw [if_pos rfl, if_pos rfl]
      exact ⟨rfl, r⟩
    · dsimp only
      have nq : ¬ ((Sum.inl i : Key) = Sum.inl k) := fun z => q (by cases z; rfl)
      rw [if_neg nq, if_neg q]
      exact ⟨rfl, r1⟩
theorem kr_app {v : V} {d : D} (r : Rep G H hh v d) (k : Int) : ∀ {hk : List (Key × V)} {ks : List (Int × D)}, KR G H hh hk ks → KR G H hh (hk ++ [(Sum.inl k, v)]) (ks ++ [(k, d)])
  | _, _, .nil => .cons ⟨rfl, r⟩ .nil
  | _, _, .cons a b => .cons a (kr_app r k b)
theorem kr_put {v : V} {d : D} {hk : List (Key × V)} {ks : List (Int × D)} (r : Rep G H hh v d) (k : Int) (h : KR G H hh hk ks) : KR G H hh (putK hk (Sum.inl k) v) (putI ks k d) := by
  unfold putK putI
  rw [kr_any k h]
  split
  · exact kr_map r k h
  · exact kr_app r k h
theorem kr_len : ∀ {hk : List (Key × V)} {ks : List (Int × D)}, KR G H hh hk ks → hk.length = ks.length
  | _, _, .nil => rfl
  | _, _, .cons _ b => congrArg (· + 1) (kr_len b)
theorem kr_keys : ∀ {hk : List (Key × V)} {ks : List (Int × D)}, KR G H hh hk ks → hk.map (·.1) = (ks.map (·.1)).map Sum.inl
  | _, _, .nil => rfl
  | _, _, .cons a b => by rw [List.map_cons, List.map_cons, List.map_cons, kr_keys b, a.1]
end
section
variable {S : Ent} {X : Cx} {e : Expr} {Te Tk : Tm} {pos : Pos}
theorem Rel.dictAt {Z : Zs} {env : Env} {σ : L2.St} {H : Hp} (R : Rel S Z env σ H) {i : Nat} {a : Addr} {ks : List (Int × D)} (h : env[i]? = some (.ownd a (dI ks))) : σ[i]? = some (some (.ref a)) ∧ a ∈ Z.O ∧ ∃ hk : List (Key × V), H a = some (.dK hk) ∧ KR S.G (vis Z.O H) Z.h hk ks := by
  obtain ⟨vs, ds, es, h1, h2, h3, r, hk, q1, q2, q3⟩ := R.slots i _ h
  exact ⟨es, h1, hk, q1, kr_of r q2 q3⟩
/-- {}, of one's own -/
def wDctO : Tf := fun env Q _ => ∀ a, Q (.ownd a (dI [])) env
theorem df_dict : DF S X (.Dict [] [] pos) wDctO := ⟨fun W tk => by
  refine ⟨_, pe_dnewK, fun Z env σ H Q E Q' R hT k x => ?_⟩
  intro p hp
  obtain ⟨R2, t2, no, h0, hh, hn⟩ := R.hide (o := .dK []) hp
  exact k _ env p (.ownd p []) _ R2 t2 ⟨List.mem_cons_self, hh, h0, no⟩ (fun hb => hn (R.res p hb).ino) rfl ⟨rfl, [], [], .nil, [], upd_same, rfl, rfl⟩ (hT p)⟩
/-- k in x, k not in x -/
def wDIn (neg : Bool) (i : Nat) (Tk : Tm) : Tm := fun env Q E => Tk env (fun d env1 => ∃ a ks k, env1[i]? = some (.ownd a (dI ks)) ∧ d = .int k ∧ Q (.bl (if neg = true then !(valI ks k).isSome else (valI ks k).isSome)) env1) E
theorem din_ok {i : Nat} {ty : TE} {W : WX} {td : TE} (etd : td = tVar i) (neg : Bool) (q : ∀ Z env σ H Q E (Q' : VK), Rel S Z env σ H → Tk env Q E → (∀ Z' env' v d H', Rel S Z' env' σ H' → Tr Z H Z' H' → RS S.G Z' H' v d → Q d env' → Q' v H') → ExOk S Z H σ E W → ty σ H Q')
    {Z : Zs} {env : Env} {σ : L2.St} {H : Hp} {Q : D → Env → Prop} {E : Ex} {Q' : VK} (R : Rel S Z env σ H) (hT : wDIn neg i Tk env Q E)
    (k : ∀ Z' env' v d H', Rel S Z' env' σ H' → Tr Z H Z' H' → RS S.G Z' H' v d → Q d env' → Q' v H') (x : ExOk S Z H σ E W) :
    ty σ H fun y H1 => td σ H1 fun x H2 => ∃ a o, x = .ref a ∧ DGet H2 a y o ∧ Q' (.bl (if neg = true then !o.isSome else o.isSome)) H2 := by
  subst etd
  refine q Z env σ H _ E _ R hT (fun Z1 env1 v d H1 R1 t1 r1 h1 => ?_) x
  obtain ⟨a, ks, n, e1, rfl, h1⟩ := h1
  obtain ⟨es, ha, hk, eh, kr⟩ := R1.dictAt e1
  refine ⟨_, es, a, valV hk (Sum.inl n), rfl, .inl ⟨hk, Sum.inl n, Rd.of eh, (RB.of r1).int, rfl⟩, ?_⟩
  have hv : (valV hk (Sum.inl n : Key)).isSome = (valI ks n).isSome := by
    obtain ⟨g1, g2⟩ := kr_val n kr
    cases hd : valI ks n with
    | none => rw [g2 hd]; rfl
    | some d =>
      obtain ⟨v, e, _⟩ := g1 d hd
      rw [e]; rfl
  rw [hv]
  exact k Z1 env1 _ _ H1 R1 t1 (.bl _) h1
theorem dx_din (i : Nat) {x : Str} {px : Pos} (hu : X.A.units + 65 < cLine) (hk : DE S X e Tk) (hN : X.N[i]? = some x := by rfl) (hv : Vis X.env.scope x := by first | exact Or.inl rfl | exact Or.inr (Or.inl rfl) | exact Or.inr (Or.inr rfl)) (hm : behindInMarks .In (.Name x px) = false := by rfl) (hd : (x == ("__debug__" : Str)) = false := by decide) (hcd : (x == ("__classdict__" : Str)) = false := by decide) :
    DE S X (.Compare e [.In] [.Name x px] pos) (wDIn false i Tk) := ⟨fun W tk => by
  obtain ⟨ty, p, q⟩ := hk.run W tk
  exact ⟨_, pe_cmp (pc_din (by omega) p (pe_var hN hv hd hcd)) hm, fun Z env σ H Q E Q' R hT k x => din_ok rfl false q R hT k x⟩⟩
theorem dx_dnin (i : Nat) {x : Str} {px : Pos} (hu : X.A.units + 65 < cLine) (hk : DE S X e Tk) (hN : X.N[i]? = some x := by rfl) (hv : Vis X.env.scope x := by first | exact Or.inl rfl | exact Or.inr (Or.inl rfl) | exact Or.inr (Or.inr rfl)) (hm : behindInMarks .NotIn (.Name x px) = false := by rfl) (hd : (x == ("__debug__" : Str)) = false := by decide) (hcd : (x == ("__classdict__" : Str)) = false := by decide) :
    DE S X (.Compare e [.NotIn] [.Name x px] pos) (wDIn true i Tk) := ⟨fun W tk => by
  obtain ⟨ty, p, q⟩ := hk.run W tk
  exact ⟨_, pe_cmp (pc_dnotin (by omega) p (pe_var hN hv hd hcd)) hm, fun Z env σ H Q E Q' R hT k x => din_ok rfl true q R hT k x⟩⟩
theorem dt_din (i : Nat) {x : Str} {px : Pos} (hu : X.A.units + 65 < cLine) (hk : DE S X e Tk) (hN : X.N[i]? = some x := by rfl) (hv : Vis X.env.scope x := by first | exact Or.inl rfl | exact Or.inr (Or.inl rfl) | exact Or.inr (Or.inr rfl)) (hm : behindInMarks .In (.Name x px) = false := by rfl) (hd : (x == ("__debug__" : Str)) = false := by decide) (hcd : (x == ("__classdict__" : Str)) = false := by decide) :
    DT S X (.Compare e [.In] [.Name x px] pos) (wTst (wDIn false i Tk)) := ⟨fun W tk => by
  obtain ⟨ty, p, q⟩ := hk.run W tk
  refine ⟨_, L2.pt_cmp (pc_din (by omega) p (pe_var hN hv hd hcd)) hm, fun Z env σ H Q E Q' R hT k x => ?_⟩
  refine din_ok (Q' := fun v H => ∃ b, v = .bl b ∧ Q' b H) rfl false q R hT (fun Z' env' v d H' R' t r hq => ?_) x
  obtain ⟨kk, rfl, hq⟩ := hq
  exact ⟨kk, RB.bl (.inl r), k Z' env' kk H' R' t hq⟩⟩
theorem dt_dnin (i : Nat) {x : Str} {px : Pos} (hu : X.A.units + 65 < cLine) (hk : DE S X e Tk) (hN : X.N[i]? = some x := by rfl) (hv : Vis X.env.scope x := by first | exact Or.inl rfl | exact Or.inr (Or.inl rfl) | exact Or.inr (Or.inr rfl)) (hm : behindInMarks .NotIn (.Name x px) = false := by rfl) (hd : (x == ("__debug__" : Str)) = false := by decide) (hcd : (x == ("__classdict__" : Str)) = false := by decide) :
    DT S X (.Compare e [.NotIn] [.Name x px] pos) (wTst (wDIn true i Tk)) := ⟨fun W tk => by
  obtain ⟨ty, p, q⟩ := hk.run W tk
  refine ⟨_, L2.pt_cmp (pc_dnotin (by omega) p (pe_var hN hv hd hcd)) hm, fun Z env σ H Q E Q' R hT k x => ?_⟩
  refine din_ok (Q' := fun v H => ∃ b, v = .bl b ∧ Q' b H) rfl true q R hT (fun Z' env' v d H' R' t r hq => ?_) x
  obtain ⟨kk, rfl, hq⟩ := hq
  exact ⟨kk, RB.bl (.inl r), k Z' env' kk H' R' t hq⟩⟩
/-- x[k] -/
def wDGet (i : Nat) (Tk : Tm) : Tm := fun env Q E => (∃ a ks, env[i]? = some (.ownd a ks)) ∧ Tk env (fun d env1 => ∃ a ks k v, env1[i]? = some (.ownd a (dI ks)) ∧ d = .int k ∧ valI ks k = some v ∧ Q v env1) E
theorem dx_dget (i : Nat) {x : Str} {px : Pos} (hu : X.A.units + 65 < cLine) (hk : DE S X e Tk) (hN : X.N[i]? = some x := by rfl) (hv : Vis X.env.scope x := by first | exact Or.inl rfl | exact Or.inr (Or.inl rfl) | exact Or.inr (Or.inr rfl)) (hns : NoSl e := by intro _ _; rfl) (hd : (x == ("__debug__" : Str)) = false := by decide) (hcd : (x == ("__classdict__" : Str)) = false := by decide) :
    DE S X (.Subscript (.Name x px) e pos) (wDGet i Tk) := ⟨fun W tk => by
  obtain ⟨ty, p, q⟩ := hk.run W tk
  refine ⟨_, pe_dget (by omega) (pe_var hN hv hd hcd) p hns, fun Z env σ H Q E Q' R hT k xo => ?_⟩
  obtain ⟨⟨a0, ks0, e0⟩, hT⟩ := hT
  obtain ⟨vs0, ds0, es0, _⟩ := R.slots i _ e0
  refine ⟨_, es0, ?_⟩
  refine q Z env σ H _ E _ R hT (fun Z1 env1 v d H1 R1 t1 r1 h1 => ?_) xo
  obtain ⟨a, ks, n, u, e1, rfl, hu2, h1⟩ := h1
  obtain ⟨es, ha, hk2, eh, kr⟩ := R1.dictAt e1
  rw [es0] at es
  cases es
  obtain ⟨v2, g1, g2⟩ := (kr_val n kr).1 u hu2
  exact ⟨a0, v2, rfl, .inl ⟨hk2, Sum.inl n, Rd.of eh, (RB.of r1).int, g1.symm⟩, k Z1 env1 v2 u H1 R1 t1 g2 h1⟩⟩
/-- x[k] = e -/
def wDPut (i : Nat) (Te Tk : Tm) : Ts := fun env P => Te env (fun v env1 => (∃ a ks, env1[i]? = some (.ownd a ks)) ∧ Tk env1 (fun d env2 => ∃ a ks k, env2[i]? = some (.ownd a (dI ks)) ∧ d = .int k ∧ ks.length < big ∧ P.nx (env2.set i (.ownd a (dI (putI ks k v))))) P.ex) P.ex
theorem ds_dput (i : Nat) {x : Str} {px p' : Pos} {ie : Expr} (hu : X.A.units + 65 < cLine) (he : DE S X e Te) (hi : DE S X ie Tk) (hN : X.N[i]? = some x := by rfl) (hv : Vis X.env.scope x := by first | exact Or.inl rfl | exact Or.inr (Or.inl rfl) | exact Or.inr (Or.inr rfl))
    (hs : swapsWith e (some (.Subscript (.Name x px) ie p')) pos.line X.env = pure false := by rfl) (hd : (x == ("__debug__" : Str)) = false := by decide) (hcd : (x == ("__classdict__" : Str)) = false := by decide) :
    DS S X (.Assign [.Subscript (.Name x px) ie p'] e pos) (wDPut i Te Tk) := ⟨fun W tk pa => by
  obtain ⟨t, p, q⟩ := he.run W tk
  obtain ⟨tk', pk, qk⟩ := hi.run W tk
  refine ⟨_, ps_dput (by omega) (pe_var hN hv hd hcd) pk p hs, fun Z env σ H P D' R hT f => ?_⟩
  refine q Z env σ H _ _ _ R hT (fun Z1 env1 v d H1 R1 t1 r1 h1 => ?_) ((f.ex σ).ok R)
  obtain ⟨⟨a0, ks0, e0⟩, h1⟩ := h1
  obtain ⟨vs0, ds0, es0, _⟩ := R1.slots i _ e0
  refine ⟨_, es0, ?_⟩
  refine qk Z1 env1 σ H1 _ _ _ R1 h1 (fun Z2 env2 w k H2 R2 t2 r2 h2 => ?_) (((f.ex σ).on (R.vle t1)).ok R1)
  obtain ⟨a, ks, n, e1, rfl, hz, h2⟩ := h2
  obtain ⟨es, ha, hk, eh, kr⟩ := R2.dictAt e1
  rw [es0] at es
  cases es
  have rv := RS.on r1 R1 t2
  refine ⟨a0, _, rfl, .inl ⟨hk, Sum.inl n, eh, (RB.of r2).int, by rw [kr_len kr]; exact Nat.lt_of_lt_of_le hz (big_line (Nat.le_refl _)), rfl⟩, ?_⟩
  obtain ⟨g1, g2⟩ := kr_to (kr_put rv n kr)
  have R3 := R2.write (y := .ownd a0 (dI (putI ks n d))) (o := .dK (putK hk (Sum.inl n) v)) e1 rfl rfl es0 ⟨rfl, _, _, by rw [vis_upd_in ha]; exact g1, _, upd_same, rfl, g2⟩
  exact f.nx Z2 _ σ _ R3 (((R.vle t1).trans (R1.vle t2)).trans ⟨fun b o e => by rw [vis_upd_in ha]; exact e, fun _ h => h⟩) h2⟩
/-- sorted(x) -/
def wDSort (i : Nat) : Tm := fun env Q _ => ∃ a ks, env[i]? = some (.ownd a (dI ks)) ∧ ks.length < 64 ∧ ∀ ms : List Int, ms.Perm (ks.map (·.1)) → ms.Pairwise (· ≤ ·) → Q (.lst (ms.map D.int)) env
theorem dx_dsort (i : Nat) {x : Str} {px p : Pos} (hc : X.calm = true) (hm : X.mg "sorted" = none) (hN : X.N[i]? = some x := by rfl) (hv : Vis X.env.scope x := by first | exact Or.inl rfl | exact Or.inr (Or.inl rfl) | exact Or.inr (Or.inr rfl)) (hg : Gl X "sorted" := by rfl) (he : starEach [.Name x px] X.env = (false, eval (.Name x px) X.env) :: starEach [] X.env := by rfl) (hd : (x == ("__debug__" : Str)) = false := by decide) (hcd : (x == ("__classdict__" : Str)) = false := by decide) :
    DE S X (.Call (.Name "sorted" p) [.Name x px] [] pos) (wDSort i) := ⟨fun W tk => by
  refine ⟨_, pe_callB (call_sortedDI hc) hg hm (by decide +kernel) (pa_cons (pe_var hN hv hd hcd) pa_nil he) (by decide) (by decide) he rfl, fun Z env σ H Q E Q' R hT k xo => ?_⟩
  obtain ⟨a, ks, e1, hz, h1⟩ := hT
  obtain ⟨es, ha, hk, eh, kr⟩ := R.dictAt e1
  refine ⟨_, es, a, hk, ks.map (·.1), rfl, Rd.of eh, kr_keys kr, by rw [List.length_map]; exact hz, fun ms q hp hw hq => ?_⟩
  exact k Z env _ _ _ (R.grow (same_upd hq)) (.alloc (same_upd hq)) (new_lst R.oin hq (RepL.of_ints ms)) (h1 ms hp hw)⟩
/-! ### three names at once -/
theorem OwnAt.on {Z1 Z2 : Zs} {H1 H2 : Hp} {a : Addr} {x : Sl} (oa : OwnAt S Z1 H1 a x) (v : Vle Z1 H1 Z2 H2) (Hs : ∀ o, H1 a = some o → NT o → H2 a = some o) : OwnAt S Z2 H2 a x := by
  cases x with
  | no => exact oa.elim
  | pin _ _ _ => exact oa.elim
  | val _ => exact oa.elim
  | own _ xs =>
    obtain ⟨ea, vs, q1, q2⟩ := oa
    exact ⟨ea, vs, Hs _ q1 (fun _ z => by cases z), v.repL q2⟩
  | ownd _ xs =>
    obtain ⟨ea, vs, ds, q1, hk, e1, e2⟩ := oa
    exact ⟨ea, vs, ds, v.repL q1, hk, Hs _ e1 (fun _ z => by cases z), e2⟩
theorem set3 {α : Type} {l : List α} {i j k : Nat} {a b c : α} (h1 : i ≠ j) (h2 : i ≠ k) : ((l.set j b).set k c).set i a = ((l.set i a).set j b).set k c := by
  rw [List.set_comm _ _ (Ne.symm h2), List.set_comm _ _ (Ne.symm h1)]
theorem triple_read {ta tb tc : TE} {W : WX} {Ta Tb Tc : Tf}
    (ra : ∀ Z env σ H Q E Q', Rel S Z env σ H → Ta env Q E → (∀ Z' env' v x H', Rel S Z' env' σ H' → Tr Z H Z' H' → SlV S Z' env' σ H' v x → Q x env' → Q' v H') → ExOk S Z H σ E W → ta σ H Q')
    (rb : ∀ Z env σ H Q E Q', Rel S Z env σ H → Tb env Q E → (∀ Z' env' v x H', Rel S Z' env' σ H' → Tr Z H Z' H' → SlV S Z' env' σ H' v x → Q x env' → Q' v H') → ExOk S Z H σ E W → tb σ H Q')
    (rc : ∀ Z env σ H Q E Q', Rel S Z env σ H → Tc env Q E → (∀ Z' env' v x H', Rel S Z' env' σ H' → Tr Z H Z' H' → SlV S Z' env' σ H' v x → Q x env' → Q' v H') → ExOk S Z H σ E W → tc σ H Q')
    {Z : Zs} {env : Env} {σ : L2.St} {H : Hp} {E : Ex} {K : Sl → Sl → Sl → Env → Prop} {K' : V → V → V → Hp → Prop} (R : Rel S Z env σ H) (x : ExOk S Z H σ E W)
    (hT : Ta env (fun x env1 => Tb env1 (fun y env2 => Tc env2 (fun z env3 => K x y z env3) E) E) E) (i j l : Nat)
    (hij : i ≠ j) (hil : i ≠ l)
    (k : ∀ Z' env' u v w x y z H', Tr Z H Z' H' → Rel S Z' (((env'.set i x).set j y).set l z) (((σ.set i (some u)).set j (some v)).set l (some w)) H' → K x y z env' → K' u v w H') :
    ta σ H fun u H1 => tb σ H1 fun v H2 => tc σ H2 fun w H3 => K' u v w H3 := by
  refine ra Z env σ H _ E _ R hT (fun Z1 env1 u x1 H1 R1 t1 s1 h1 => ?_) x
  have own : ∀ a, u = .ref a → x1.owns = true → Spare S Z1 env1 σ a → a ∉ Z1.B → OwnAt S Z1 H1 a x1 → tb σ H1 fun v H2 => tc σ H2 fun w H3 => K' u v w H3 := fun a ev hy sp nb oa => by
    subst ev
    have Rr := R1.reserve sp
    refine pair_read (K' := fun v w H3 => K' (.ref a) v w H3) rb rc Rr (fun Z3 e3 cls dd er H3 R3 t3 eo h3 => x ⟨Z3.O, Z3.h, Z1.B⟩ e3 cls dd er H3 (R3.release t3.bb).1 (Tr.trans R1 t1 ⟨t3.keep, t3.osub, t3.hh, t3.hz, rfl⟩) eo h3) h1 j l (fun Z2 env2 v w y z H2 R2 t2 Rjl h2 => ?_)
    obtain ⟨Rf, spf⟩ := Rjl.release t2.bb
    have t2' : Tr Z1 H1 ⟨Z2.O, Z2.h, Z1.B⟩ H2 := ⟨t2.keep, t2.osub, t2.hh, t2.hz, rfl⟩
    have oa2 : OwnAt S ⟨Z2.O, Z2.h, Z1.B⟩ H2 a x1 := oa.on (R1.vle t2') fun o q n => (t2.keep a o q sp.nh).get n
    have Ra := Rf.putOwn (i := i) hy spf.ino spf.nh spf.ne oa2 spf.no nb
    rw [set3 hij hil, set3 hij hil] at Ra
    exact k ⟨Z2.O, Z2.h, Z1.B⟩ env2 _ v w x1 y z H2 (Tr.trans R1 t1 t2') Ra h2
  cases x1 with
  | val d =>
    refine pair_read (K' := fun v w H3 => K' u v w H3) rb rc R1 (x.on R1 t1) h1 j l (fun Z2 env2 v w y z H2 R2 t2 Rjl h2 => ?_)
    have Ra := Rjl.put (i := i) (RS.on s1 R1 t2)
    rw [set3 hij hil, set3 hij hil] at Ra
    exact k Z2 env2 _ v w _ y z H2 (Tr.trans R1 t1 t2) Ra h2
  | no => cases s1.1
  | pin _ _ _ => cases s1.1
  | own _ xs =>
    obtain ⟨hy, a, rfl, sp, nb, oa⟩ := s1
    exact own a rfl hy sp nb oa
  | ownd _ xs =>
    obtain ⟨hy, a, rfl, sp, nb, oa⟩ := s1
    exact own a rfl hy sp nb oa
def wPar3 (Ta Tb Tc : Tf) (i j l : Nat) : Ts := fun env P => Ta env (fun x env1 => Tb env1 (fun y env2 => Tc env2 (fun z env3 => P.nx (((env3.set i x).set j y).set l z)) P.ex) P.ex) P.ex
theorem ds_par3 (i j l : Nat) {a b c : Expr} {x y z : Str} {px py pz pt : Pos} {kt k2 pt2} {Ta Tb Tc : Tf} (hc : X.calm = true) (hN : X.N.Nodup) (ha : DO S X a Ta) (hb : DO S X b Tb) (hcc : DO S X c Tc) (hw : swappedStores [.Tuple [.Name x px, .Name y py, .Name z pz] kt pt] (.Tuple [a, b, c] k2 pt2) X.env = pure (some [x, y, z]))
    (hi : X.N[i]? = some x := by rfl) (hj : X.N[j]? = some y := by rfl) (hl : X.N[l]? = some z := by rfl) (hij : i ≠ j := by decide) (hil : i ≠ l := by decide) (hjl : j ≠ l := by decide) (hx : X.env.scope.names.lookup x = some .local := by rfl) (hy : X.env.scope.names.lookup y = some .local := by rfl) (hz : X.env.scope.names.lookup z = some .local := by rfl)
    (hs : swapsWithSole [.Tuple [.Name x px, .Name y py, .Name z pz] kt pt] (.Tuple [a, b, c] k2 pt2) pos.line X.env = pure false := by rfl)
    (hst : starEach [a, b, c] X.env = (false, eval a X.env) :: starEach [b, c] X.env := by rfl) (hst2 : starEach [b, c] X.env = (false, eval b X.env) :: starEach [c] X.env := by rfl) (hst3 : starEach [c] X.env = (false, eval c X.env) :: starEach [] X.env := by rfl) :
    DS S X (.Assign [.Tuple [.Name x px, .Name y py, .Name z pz] kt pt] (.Tuple [a, b, c] k2 pt2) pos) (wPar3 Ta Tb Tc i j l) := ⟨fun W tk pa => by
  obtain ⟨ta, pa', ra⟩ := ha.run W tk
  obtain ⟨tb, pb, rb⟩ := hb.run W tk
  obtain ⟨tc, pc, rc⟩ := hcc.run W tk
  refine ⟨_, ps_par3 hc hN hi hj hl hij hil hjl hx hy hz (pa_cons pa' (pa_cons pb (pa_cons pc pa_nil hst3) hst2) hst) hw hs, fun Z env σ H P D' R hT f => ?_⟩
  exact triple_read (K' := fun u v w H2 => ∃ u1 v1 w1, [u, v, w] = [u1, v1, w1] ∧ D'.nx (((σ.set i (some u1)).set j (some v1)).set l (some w1)) H2) ra rb rc R ((f.ex σ).ok R) hT i j l hij hil
    (fun Z' env' u v w x1 y1 z1 H' t Rf h2 => ⟨u, v, w, rfl, f.nx Z' _ _ H' Rf (R.vle t) h2⟩)⟩
end
end DV

set_option Elab.async false
set_option linter.all false
set_option maxRecDepth 100000
/-! DV25: min(x), max(x), x a list of tuples of ints. -/
namespace DV
open PySem PySem.Spec PyProof.Rows L2
/-- the tuples' order -/
def lx : List Int → List Int → Bool
  | [], [] => false
  | [], _ :: _ => true
  | _ :: _, [] => false
  | x :: xs, y :: ys => if x = y then lx xs ys else decide (x < y)
theorem lx_eq : ∀ xs ys : List Int, PySem.W.listLt xs ys = lx xs ys
  | [], [] => rfl
  | [], _ :: _ => rfl
  | _ :: _, [] => rfl
  | x :: xs, y :: ys => by
    unfold PySem.W.listLt lx
    by_cases h : x = y
    · rw [if_pos h, if_pos h, lx_eq]
    · rw [if_neg h, if_neg h]; rfl
theorem lx_irr : ∀ xs : List Int, lx xs xs = false
  | [] => rfl
  | x :: xs => by unfold lx; rw [if_pos rfl]; exact lx_irr xs
/-- x < y, z not under y: x < z or z = .. : not (z < x) -/
theorem lx_tr : ∀ {x y z : List Int}, lx y x = false → lx z y = false → lx z x = false
  | [], [], [], _, _ => rfl
  | [], [], _ :: _, _, h => rfl
  | [], _ :: _, [], _, h => rfl
  | [], _ :: _, _ :: _, _, _ => rfl
  | _ :: _, [], _, h, _ => by cases h
  | _ :: _, _ :: _, [], _, h => by cases h
  | x :: xs, y :: ys, z :: zs, h, g => by
    unfold lx at h g ⊢
    by_cases e : y = x
    · subst e
      rw [if_pos rfl] at h
      by_cases e2 : z = y
      · subst e2
        rw [if_pos rfl] at g ⊢
        exact lx_tr h g
      · rw [if_neg e2] at g ⊢
        exact g
    · rw [if_neg e] at h
      by_cases e2 : z = y
      · subst e2
        rw [if_pos rfl] at g
        rw [if_neg e]
        exact h
      · rw [if_neg e2] at g
        have h1 := of_decide_eq_false h
        have h2 := of_decide_eq_false g
        rw [if_neg (by omega)]
        exact decide_eq_false (by omega)
theorem lx_asym : ∀ {x y : List Int}, lx x y = true → lx y x = false
  | [], [], h => rfl
  | [], _ :: _, h => rfl
  | _ :: _, [], h => by cases h
  | x :: xs, y :: ys, h => by
    unfold lx at h ⊢
    by_cases e : x = y
    · subst e
      rw [if_pos rfl] at h ⊢
      exact lx_asym h
    · rw [if_neg e] at h
      have := of_decide_eq_true h
      rw [if_neg (by omega)]
      exact decide_eq_false (by omega)
theorem lx_anti : ∀ {x y : List Int}, lx x y = false → lx y x = false → x = y
  | [], [], _, _ => rfl
  | [], _ :: _, h, _ => by cases h
  | _ :: _, [], _, h => by cases h
  | x :: xs, y :: ys, h, g => by
    unfold lx at h g
    by_cases e : x = y
    · subst e
      rw [if_pos rfl] at h g
      rw [lx_anti h g]
    · rw [if_neg e] at h
      rw [if_neg (Ne.symm e)] at g
      have h1 := of_decide_eq_false h
      have h2 := of_decide_eq_false g
      omega
def mnT (x : List Int) (xs : List (List Int)) : List Int := xs.foldl (fun a y => if lx y a = true then y else a) x
def mxT (x : List Int) (xs : List (List Int)) : List Int := xs.foldl (fun a y => if lx a y = true then y else a) x
theorem mnT_spec : ∀ (xs : List (List Int)) (x : List Int), mnT x xs ∈ x :: xs ∧ ∀ q ∈ x :: xs, lx q (mnT x xs) = false
  | [], x => ⟨List.mem_cons_self, fun q hq => by rw [List.mem_singleton.mp hq]; exact lx_irr _⟩
  | y :: ys, x => by
    unfold mnT
    rw [List.foldl_cons]
    by_cases h : lx y x = true
    · rw [if_pos h]
      obtain ⟨a, b⟩ := mnT_spec ys y
      refine ⟨List.mem_cons_of_mem _ a, fun q hq => ?_⟩
      rcases List.mem_cons.mp hq with rfl | hq
      · exact lx_tr (b y List.mem_cons_self) (lx_asym h)
      · exact b q hq
    · rw [if_neg h]
      have h : lx y x = false := by cases e : lx y x <;> simp_all
      obtain ⟨a, b⟩ := mnT_spec ys x
      refine ⟨?_, fun q hq => ?_⟩
      · rcases List.mem_cons.mp a with a | a
        · show mnT x ys ∈ _
          rw [a]; exact List.mem_cons_self
        · exact List.mem_cons_of_mem _ (List.mem_cons_of_mem _ a)
      · rcases List.mem_cons.mp hq with rfl | hq
        · exact b q List.mem_cons_self
        · rcases List.mem_cons.mp hq with rfl | hq
          · exact lx_tr (b x List.mem_cons_self) h
          · exact b q (List.mem_cons_of_mem _ hq)
theorem mxT_spec : ∀ (xs : List (List Int)) (x : List Int), mxT x xs ∈ x :: xs ∧ ∀ q ∈ x :: xs, lx (mxT x xs) q = false
  | [], x => ⟨List.mem_cons_self, fun q hq => by rw [List.mem_singleton.mp hq]; exact lx_irr _⟩
  | y :: ys, x => by
    unfold mxT
    rw [List.foldl_cons]
    by_cases h : lx x y = true
    · rw [if_pos h]
      obtain ⟨a, b⟩ := mxT_spec ys y
      refine ⟨List.mem_cons_of_mem _ a, fun q hq => ?_⟩
      rcases List.mem_cons.mp hq with rfl | hq
      · exact lx_tr (lx_asym h) (b y List.mem_cons_self)
      · exact b q hq
    · rw [if_neg h]
      have h : lx x y = false := by cases e : lx x y <;> simp_all
      obtain ⟨a, b⟩ := mxT_spec ys x
      refine ⟨?_, fun q hq => ?_⟩
      · rcases List.mem_cons.mp a with a | a
        · show mxT x ys ∈ _
          rw [a]; exact List.mem_cons_self
        · exact List.mem_cons_of_mem _ (List.mem_cons_of_mem _ a)
      · rcases List.mem_cons.mp hq with rfl | hq
        · exact b q List.mem_cons_self
        · rcases List.mem_cons.mp hq with rfl | hq
          · exact lx_tr h (b x List.mem_cons_self)
          · exact b q (List.mem_cons_of_mem _ hq)
/-- the same as the kit's data -/
def tD (ns : List Int) : PyData := PySem.W.Datum.toD (PySem.W.Tup.mk ns)
theorem tD_eq (ns : List Int) : tD ns = .tuple (ns.map .int) := rfl
theorem tD_inj {a b : List Int} (h : tD a = tD b) : a = b := by
  rw [tD_eq, tD_eq] at h
  injection h with h
  exact (List.map_inj_right (fun x y e => by injection e)).mp h
theorem foldl_map2 {α β : Type} (f : α → β) (g : β → β → β) (k : α → α → α) (h : ∀ a y, g (f a) (f y) = f (k a y)) : ∀ (xs : List α) (x : α), (xs.map f).foldl g (f x) = f (xs.foldl k x)
  | [], _ => rfl
  | y :: ys, x => by rw [List.map_cons, List.foldl_cons, List.foldl_cons, h, foldl_map2 f g k h ys]
theorem dlt_tD (a b : List Int) : PySem.W.dataLt (tD a) (tD b) = lx a b := (PySem.W.DatumOrd.lt_eq (PySem.W.Tup.mk a) (PySem.W.Tup.mk b)).trans (lx_eq a b)
theorem minD_tD (x : List Int) (xs : List (List Int)) : PySem.W.minD (tD x) (xs.map tD) = tD (mnT x xs) :=
  foldl_map2 tD _ _ (fun a y => by (try dsimp only); rw [dlt_tD]; split <;> rfl) xs x
theorem maxD_tD (x : List Int) (xs : List (List Int)) : PySem.W.maxD (tD x) (xs.map tD) = tD (mxT x xs) :=
  foldl_map2 tD _ _ (fun a y => by (try dsimp only); rw [dlt_tD]; split <;> rfl) xs x
theorem alike_tD (xs : List (List Int)) : PySem.W.AlikeAll (xs.map tD) := by
  refine ⟨fun x hx y hy => ?_, fun x hx => ?_⟩
  · obtain ⟨a, _, rfl⟩ := List.mem_map.mp hx
    obtain ⟨b, _, rfl⟩ := List.mem_map.mp hy
    exact PySem.W.DatumOrd.alike (PySem.W.Tup.mk a) (PySem.W.Tup.mk b)
  · obtain ⟨a, _, rfl⟩ := List.mem_map.mp hx
    exact PySem.W.DatumOrd.notNone (PySem.W.Tup.mk a)
theorem depth_ints : ∀ ns : List Int, PyData.depthAll (ns.map .int) = 0
  | [] => rfl
  | n :: ns => by rw [List.map_cons, PyData.depthAll, depth_ints ns]; rfl
theorem depth_tD : ∀ xs : List (List Int), PyData.depthAll (xs.map tD) ≤ 1
  | [] => Nat.zero_le _
  | x :: xs => by
    have := depth_tD xs
    rw [List.map_cons, PyData.depthAll, tD_eq, PyData.depth, depth_ints]
    omega
section
variable {G : Pg} {P : Program} {w : World} {H Hv : Hp} {h : Heap} {hh : Option Addr}
theorem reads_ints : ∀ {ns : List Int} {us : List Value}, Vals (ns.map V.int) us → ∃ as, ReadsAll h us (ns.map .int) as
  | [], _, r => by cases r; exact ⟨_, .nil⟩
  | n :: ns, _, r => by
    cases r with
    | cons a b =>
      obtain ⟨t, rfl⟩ := a
      obtain ⟨as, x⟩ := reads_ints b
      exact ⟨_, .cons (.int n t) x⟩
theorem reads_tup (kin : G.K.In h) (ok : HOk P w H h) (sub : ∀ b o, Hv b = some o → H b = some o) {v : V} {k : List Int} (r : Rep G Hv hh v (dT k)) {u : Value} (ru : RelV v u) : ∃ as, Reads h u (tD k) as := by
  cases r with
  | tup e rs =>
    rename_i a vs
    obtain rfl := rs.ints
    obtain rfl : u = Value.ref a := ru
    have e2 : SqT G.K H a (k.map V.int) := by
      rcases e with (e | ⟨o, e⟩) | e
      · exact .inl (.inl (sub _ _ e))
      · exact .inl (.inr ⟨o, sub _ _ e⟩)
      · exact .inr e
    rw [tD_eq]
    rcases e2 with e2 | ⟨o, its, m, e2, c, d, z, vv⟩
    · obtain ⟨_, its, vv, o, e3, c, m, d⟩ := e2.ok ok
      obtain ⟨as, ra⟩ := reads_ints (h := h) vv
      exact ⟨_, .tuple e3 c d (by simpa using ra)⟩
    · obtain ⟨as, ra⟩ := reads_ints (h := h) vv
      exact ⟨_, .tuple (kin _ _ e2) c d ra⟩
theorem reads_tups (kin : G.K.In h) (ok : HOk P w H h) (sub : ∀ b o, Hv b = some o → H b = some o) : ∀ {tt : List (List Int)} {vs : List V}, RepL G Hv hh vs (tt.map dT) → ∀ {us : List Value}, Vals vs us → ∃ as, ReadsAll h us (tt.map tD) as
  | [], _, r, _, q => by cases r; cases q; exact ⟨_, .nil⟩
  | t :: tt, _, r, _, q => by
    cases r with
    | cons r1 rs =>
      cases q with
      | cons a b =>
        obtain ⟨as, x⟩ := reads_tup kin ok sub r1 a
        obtain ⟨bs, y⟩ := reads_tups kin ok sub rs b
        exact ⟨_, .cons x y⟩
end
section
variable {X : Cx} {S : Ent}
def rMT (mx : Bool) (K : PySem.W.Frag) : List V → Hp → VK → Prop := fun xs H Q => ∃ (G : Pg) (Hv : Hp) (hh : Option Addr) (a : Addr) (vs : List V) (tt : List (List Int)), xs = [.ref a] ∧ K = G.K ∧ (∀ b o, Hv b = some o → H b = some o) ∧ RepL G Hv hh vs (tt.map dT) ∧
  H a = some (.lst vs) ∧ tt ≠ [] ∧ ∀ (i : Nat) v m, vs[i]? = some v → tt[i]? = some m → (∀ q ∈ tt, (if mx = true then lx m q else lx q m) = false) → Q v H
theorem getD_map {α β : Type} (f : α → β) (d : β) : ∀ (xs : List α) (i : Nat), i < xs.length → ∃ x, xs[i]? = some x ∧ (xs.map f).getD i d = f x
  | [], _, h => absurd h (Nat.not_lt_zero _)
  | x :: xs, 0, _ => ⟨x, rfl, rfl⟩
  | x :: xs, i + 1, h => by
    obtain ⟨y, a, b⟩ := getD_map f d xs i (Nat.lt_of_succ_lt_succ h)
    exact ⟨y, a, b⟩
theorem cr_mt_end {mx : Bool} {pz : List (Addr × Obj)} {s : Shared} {σ : L2.St} {H : Hp} {Q : VK} {G : Pg} {Hv : Hp} {hh : Option Addr} {vs : List V} {its : List Value} {tt : List (List Int)} {as : List Addr} {best : List Int} (I : Inv X pz σ H s) (vv : Vals vs its) (rs : RepL G Hv hh vs (tt.map dT)) (ra : ReadsAll s.heap its (tt.map tD) as)
    (hb : ∀ q ∈ tt, (if mx = true then lx best q else lx q best) = false)
    (q : ∀ (i : Nat) v m, vs[i]? = some v → tt[i]? = some m → (∀ q ∈ tt, (if mx = true then lx m q else lx q m) = false) → Q v H)
    {i : Nat} {v : Value} {h' : Heap} {tk : Option Addr} {bs : List Addr} (ev : its[i]? = some v) (rb : Reads h' v (tD best) bs) (hk : ∀ b o, s.heap.get? b = some o → h'.get? b = some o) : ∃ z, RelV z v ∧ Q z H := by
  obtain ⟨bs2, r2, hlt, -, -⟩ := PySem.W.readsAll_at ra i v ev
  rw [List.length_map] at hlt
  obtain ⟨m, em, e2⟩ := getD_map tD PyData.none tt i hlt
  rw [e2] at r2
  have := (Reads.unique rb _ _ (PySem.W.reads_keeps hk r2)).1
  have := tD_inj this
  subst this
  cases e3 : vs[i]? with
  | none => rw [Vals.none_of vv e3] at ev; cases ev
  | some z =>
    obtain ⟨u, e4, rz⟩ := Vals.get vv e3
    rw [ev] at e4
    cases e4
    exact ⟨z, rz, q i z best e3 em hb⟩
theorem cr_minT (hc : X.calm = true) (hu : X.A.units + 65 < cLine) : CallR X (.builtin "min") (rMT false X.K) := by
  intro pz s σ H xs us Q I r h
  obtain ⟨G, Hv, hh, a, vs, tt, rfl, eK, sub, rs, ea, hn, q⟩ := h
  obtain ⟨u, rfl, ru⟩ := vals1 r
  obtain rfl : u = Value.ref a := ru
  have kin : G.K.In s.heap := by rw [← eK]; exact I.kIn
  obtain ⟨_, its, m, vv, e3⟩ := I.hok _ _ ea
  obtain ⟨as, ra⟩ := reads_tups kin I.hok sub rs vv
  cases tt with
  | nil => exact absurd rfl hn
  | cons t tt =>
    have hd := depth_tD (t :: tt)
    refine PySem.W.min_list_data (vs := its.toArray) (x := tD t) (xs := tt.map tD) (as := as) (I.ok.hd hc) ⟨_, e3, rfl, by simp⟩ (by simpa using ra) (alike_tD (t :: tt)) (by rw [List.map_cons] at hd; omega) (fun i v h' tk bs ev rb hk => ?_)
    rw [minD_tD] at rb
    obtain ⟨z, rz, hz⟩ := cr_mt_end (mx := false) (tk := tk) I vv rs ra (fun q hq => by rw [if_neg (by decide)]; exact (mnT_spec tt t).2 q hq) q (by simpa using ev) rb hk
    exact ⟨z, H, I.kept hk, rz, hz⟩
theorem cr_maxT (hc : X.calm = true) (hu : X.A.units + 65 < cLine) : CallR X (.builtin "max") (rMT true X.K) := by
  intro pz s σ H xs us Q I r h
  obtain ⟨G, Hv, hh, a, vs, tt, rfl, eK, sub, rs, ea, hn, q⟩ := h
  obtain ⟨u, rfl, ru⟩ := vals1 r
  obtain rfl : u = Value.ref a := ru
  have kin : G.K.In s.heap := by rw [← eK]; exact I.kIn
  obtain ⟨_, its, m, vv, e3⟩ := I.hok _ _ ea
  obtain ⟨as, ra⟩ := reads_tups kin I.hok sub rs vv
  cases tt with
  | nil => exact absurd rfl hn
  | cons t tt =>
    have hd := depth_tD (t :: tt)
    refine PySem.W.max_list_data (vs := its.toArray) (x := tD t) (xs := tt.map tD) (as := as) (I.ok.hd hc) ⟨_, e3, rfl, by simp⟩ (by simpa using ra) (alike_tD (t :: tt)) (by rw [List.map_cons] at hd; omega) (fun i v h' tk bs ev rb hk => ?_)
    rw [maxD_tD] at rb
    obtain ⟨z, rz, hz⟩ := cr_mt_end (mx := true) (tk := tk) I vv rs ra (fun q hq => by rw [if_pos rfl]; exact (mxT_spec tt t).2 q hq) q (by simpa using ev) rb hk
    exact ⟨z, H, I.kept hk, rz, hz⟩
/-- min(x), max(x) -/
def gMinL : GL := fun ds Q => ∃ tt : List (List Int), ds = [.lst (tt.map dT)] ∧ tt ≠ [] ∧ ∀ m ∈ tt, (∀ q ∈ tt, lx q m = false) → Q (dT m)
def gMaxL : GL := fun ds Q => ∃ tt : List (List Int), ds = [.lst (tt.map dT)] ∧ tt ≠ [] ∧ ∀ m ∈ tt, (∀ q ∈ tt, lx m q = false) → Q (dT m)
theorem cd_min (hK : X.K = S.G.K) (hc : X.calm = true) (hu : X.A.units + 65 < cLine) : CallD S X (.builtin "min") gMinL := by
  refine ⟨_, cr_minT hc hu, fun Z H vs ds Qd Q' hl hr hg k oin => ?_⟩
  obtain ⟨tt, rfl, hn, hg⟩ := hg
  obtain ⟨v, rfl, r⟩ := one_of hl hr
  obtain ⟨p, ws, rfl, ep, rp⟩ := r.lst
  refine ⟨S.G, _, _, p, ws, tt, rfl, hK, fun b o e => (vis_some e).2, rp, ep, hn, fun i v m e1 e2 hm => ?_⟩
  obtain ⟨d, e3, rv⟩ := rp.getV e1
  rw [List.getElem?_map, e2] at e3
  cases e3
  exact k _ _ _ Same.rfl' rv (hg m (List.mem_of_getElem? e2) hm)
theorem cd_max (hK : X.K = S.G.K) (hc : X.calm = true) (hu : X.A.units + 65 < cLine) : CallD S X (.builtin "max") gMaxL := by
  refine ⟨_, cr_maxT hc hu, fun Z H vs ds Qd Q' hl hr hg k oin => ?_⟩
  obtain ⟨tt, rfl, hn, hg⟩ := hg
  obtain ⟨v, rfl, r⟩ := one_of hl hr
  obtain ⟨p, ws, rfl, ep, rp⟩ := r.lst
  refine ⟨S.G, _, _, p, ws, tt, rfl, hK, fun b o e => (vis_some e).2, rp, ep, hn, fun i v m e1 e2 hm => ?_⟩
  obtain ⟨d, e3, rv⟩ := rp.getV e1
  rw [List.getElem?_map, e2] at e3
  cases e3
  exact k _ _ _ Same.rfl' rv (hg m (List.mem_of_getElem? e2) hm)
end
end DV

set_option Elab.async false
set_option linter.all false
set_option maxRecDepth 100000
/-! DV26: sorted(set(x)), x a list of ints. -/
namespace DV
open PySem PySem.Spec PyProof.Rows L2
abbrev setFresh (w : World) : Obj := { cls := .type "set", dict := none, data := .set #[] 0 (.fresh 0 0 (!w.params.followText "set-order")) }
section
variable {P : Program} {w : World} {A : Around} {E : Value → Shared → Prop} {s : Shared}
theorem nmem_two {x y z : Nat} (h1 : x ≠ y) (h2 : x ≠ z) : x ∉ [y, z] := by
  intro h
  rcases List.mem_cons.mp h with h | h
  · exact h1 h
  · exact h2 (List.mem_singleton.mp h)
set_option maxHeartbeats 3200000 in
theorem call_set_listI {l : Addr} {items : Array Value} (ns : List Int) {Q : Value → Shared → Prop} (hh : A.handled = none) (hl : s.heap.IsList l items) (hit : IntsAre items.toList ns) (hb : ns.length + 1 < scanBound)
    (h : ∀ (h' : Heap) (tk c : Nat), SetR w h' s.heap.objs.size (fun j => decide (j ∈ ns)) c → c ≤ ns.length → (∀ b o, s.heap.get? b = some o → h'.get? b = some o) → Q (.ref s.heap.objs.size) { s with heap := h', toks := tk }) :
    wpAny (model P w) A (call (.type "set") [.ref l]) Q E s := by
  have len : items.size = ns.length := by
    have q := IntsAre.length hit
    rwa [Array.length_toList] at q
  obtain ⟨c, tl, hmro⟩ := F.called_set.mro
  have hmade := F.called_set.made
  have hsub := F.called_set.sub
  refine wpAny_call (codeAny_of_tree ?_)
  show wpAny _ _ (callAny (.type "set") _) _ _ _
  refine wpAny_pure ⟨Code.quiet_builtin _ (by decide +kernel), codeAny_builtin F.entry_type_call ?_⟩
  rw [Around.under_plain (weight_type_call_type "set" [.ref l] []) rfl]
  have h1 := F.called_set.notType
  have h2 := F.called_set.canCreate
  have hct := F.typeCall_set_1 (.ref l)
  repeat (any_goals (first | assumption | wp_step))
  refine codeAny_mono (code_set_led1 (.ref l) (E := E) (Q₁ := fun obj s₁ => obj = .ref s.heap.objs.size ∧ s₁ = { s with heap := s.heap.push (setFresh w) }) ⟨rfl, rfl⟩) fun r s₁ hr => ?_
  match r, hr with
  | .error e, hr => exact hr
  | .ok (.ret obj), hr =>
    obtain ⟨rfl, rfl⟩ := hr
    have hS : (s.heap.push (setFresh w)).get? s.heap.objs.size = some (setFresh w) := Heap.get?_push_size _ rfl
    have hT : Shared.TypeIs { s with heap := s.heap.push (setFresh w) } (.ref s.heap.objs.size) "set" := ⟨_, hS, rfl⟩
    have hli := F.called_set.init.lookup
    have hbi := F.called_set.init.bind (.ref s.heap.objs.size)
    repeat (any_goals (first | assumption | wp_step))
    refine codeAny_mono (codeAny_call_builtin (R := wants (fun r s₂ => r = .none ∧ ∃ h' tk c, s₂ = { s with heap := h', toks := tk } ∧ SetR w h' s.heap.objs.size (fun j => decide (j ∈ ns)) c ∧ c ≤ ns.length ∧
        ∀ b o, s.heap.get? b = some o → h'.get? b = some o) E) F.called_set.init.plain F.entry_set_init (check_set_init_1 hT ?_)) fun r₂ s₂ hr₂ => ?_
    · obtain ⟨⟨ocls, odict, odata, oslots⟩, hol, hcl, nl, hdl⟩ := hl
      simp only at hcl hdl
      subst hcl; subst hdl
      have hlS : l < s.heap.objs.size := Heap.lt_size hol
      have hol' : (s.heap.push (setFresh w)).get? l = some { cls := .type "list", dict := odict, data := .seq items nl, slots := oslots } := Heap.get?_push_of_some _ hol
      have hsls := F.sub_list_set
      have hslf := F.sub_list_frozenset
      have hne : (Value.type "list" == Value.type "dict") = false := by decide
      have hl1 : (s.heap.push (setFresh w)).IsList l items := ⟨_, hol', rfl, nl, rfl⟩
      unfold Builtin.«set.__init__» noKeywords Builtin.Frozenset.updateFrom
      generalize hPI : pyIter = PI
      wp_walk
      subst hPI
      refine wpAny_pyIter_list hl1 (wpAny_bind (wpAny_runValue ?_))
      have hz1 : (s.heap.push (setFresh w)).objs.size = s.heap.objs.size + 1 := Heap.size_push ..
      have hneI : l ≠ (s.heap.push (setFresh w)).objs.size := by rw [hz1]; exact Nat.ne_of_lt (Nat.lt_succ_of_lt hlS)
      have hSf : s.heap.objs.size ∉ [(s.heap.push (setFresh w)).objs.size, l] := by
        rw [hz1]
        exact nmem_two (Nat.ne_of_lt (Nat.lt_succ_self _)) (Nat.ne_of_gt hlS)
      have hval : ∀ (i : Nat) (v : Value), items[i]? = some v → ∃ k t, ns[i]? = some k ∧ v = .int k t := fun i v hv => by
        obtain ⟨hi, _⟩ := Array.getElem?_eq_some_iff.mp hv
        rw [len] at hi
        obtain ⟨t, e⟩ := PyProof.Rows.IntsAre.int_at hit i v (by rw [Array.getElem?_toList]; exact hv)
        refine ⟨ns[i], t, List.getElem?_eq_getElem hi, ?_⟩
        rw [e, List.getD_eq_getElem?_getD, List.getElem?_eq_getElem hi]; rfl
      have hh3 : A.in1.in1.in1.handled = none := by simp [hh]
      refine set_update_ints ((Walks.list hh3 _ l hneI items).toS) s.heap.objs.size hSf ns len hb hval (items.size - 0) 0 _ (by omega) (Nat.zero_le _)
        ⟨⟨_, Heap.get?_push_size _ rfl, rfl, rfl⟩, hl1.push _⟩ ⟨0, Nat.le_refl 0, setR_new_at (Heap.get?_push_of_some _ hS)⟩ fun s' c' hm hc' hS' => ?_
      obtain ⟨h', g2, d', tk', os'⟩ := s'
      obtain rfl : g2 = s.gens := hm.gens
      obtain rfl : d' = s.drawn := hm.drawn
      obtain rfl : os' = s.os := hm.os
      show wpAny _ _ _ _ _ _
      refine wpAny_pure ?_
      show wpAny _ _ (ret Value.none) _ _ _
      rw [len] at hc'
      refine wpAny_pure ⟨rfl, h', tk', c', rfl, hS', hc', fun b o e => ?_⟩
      have hb0 : b < s.heap.objs.size := Heap.lt_size e
      exact hm.heap b o (nmem_two (Nat.ne_of_lt hb0) (by rw [hz1]; exact Nat.ne_of_lt (Nat.lt_succ_of_lt hb0))) (Heap.get?_push_of_some _ (Heap.get?_push_of_some _ e))
    · match r₂, hr₂ with
      | .error e, hr₂ => exact hr₂
      | .ok (.ret r), hr₂ =>
        obtain ⟨rfl, h', tk, c', rfl, hS', hc', hk'⟩ := hr₂
        repeat (any_goals (first | assumption | wp_step))
        exact h _ _ _ hS' hc' hk'
      | .ok .next, hr₂ => exact hr₂.elim
/-- the set at a -/
def SetIO (w : World) (a : Addr) (S : Int → Bool) (n : Nat) : HO := .ext fun h => SetR w h a S n
theorem setIO_new {H : Hp} {h : Heap} {a : Addr} {S : Int → Bool} {n : Nat} (R : SetR w h a S n) : ObjOk P w H h a (SetIO w a S n) := by
  have ⟨o, es, ep, t, ho, _⟩ := R
  exact ⟨R, ⟨o, ho⟩, fun h1 h2 p k => p.at k⟩
end
section
variable {X : Cx} {S : Ent}
def rSetOfI (K : PySem.W.Frag) (w : World) : List V → Hp → VK → Prop := fun xs H Q => ∃ (l : Addr) (ns : List Int), xs = [V.ref l] ∧ SqL K H l (ns.map V.int) ∧ ns.length ≤ 1000 ∧
  ∀ a c, H a = none → c ≤ ns.length → Q (.ref a) (upd H a (SetIO w a (fun j => decide (j ∈ ns)) c))
theorem cr_setOfI (hc : X.calm = true) : CallR X (.type "set") (rSetOfI X.K X.w) := by
  intro pins s σ H xs us Q I r h
  obtain ⟨l, ns, rfl, hl, hf, q⟩ := h
  rw [Vals.ref1 r]
  obtain ⟨its, rv, pl, hz⟩ := I.list hl
  have hn : H s.heap.objs.size = none := I.hok.fresh (Nat.le_refl _)
  refine call_set_listI (P := X.prog) (w := X.w) ns (I.ok.hd hc) pl.isList (by simpa using Vals.ints rv) (by unfold scanBound; omega) fun h' tk c R hcn k => ?_
  exact ⟨.ref s.heap.objs.size, upd H s.heap.objs.size (SetIO X.w s.heap.objs.size _ c), I.laid (t' := tk) k (Nat.le_refl _) (setIO_new R), rfl, q _ c hn hcn⟩
def rSortedSI (w : World) : List V → Hp → VK → Prop := fun vs H Q => ∃ (a : Addr) (S : Int → Bool) (n : Nat), vs = [V.ref a] ∧ H a = some (SetIO w a S n) ∧ n < 64 ∧
  ∀ (ns : List Int) (p : Addr), ns.Pairwise (· < ·) → (∀ k, k ∈ ns ↔ S k = true) → H p = none → Q (.ref p) (upd H p (.lst (ns.map V.int)))
theorem cr_sortedSI (hc : X.calm = true) : CallR X (.builtin "sorted") (rSortedSI X.w) := by
  intro pins s σ H vs us Q I r h
  obtain ⟨a, S, n, rfl, ha, hf, q⟩ := h
  have R : SetR X.w s.heap a S n := (I.hok a _ ha).1
  rw [Vals.ref1 r]
  refine sorted_set (P := X.prog) R (I.ok.hd hc) hf fun s' p out c ns k g o hp hg hout pw hm hl => ?_
  have hlen : (ns.map V.int).length ≤ sizeLine := by rw [List.length_map, sizeLine_eq]; omega
  have hn : H p = none := I.hok.fresh hp
  have J : Inv X pins σ (upd H p (.lst (ns.map V.int))) { s with heap := s'.heap, gens := s'.gens, drawn := s'.drawn, toks := s'.toks } :=
    I.call (ch := []) (Un.laid k hp hn) (I.hok.laid k hp ⟨hlen, out.toList, c, vals_of_ints hout, hg⟩) (by rw [g]; exact I.bare) (fun _ z => nomatch z)
  have e : s' = { s with heap := s'.heap, gens := s'.gens, drawn := s'.drawn, toks := s'.toks } := by
    cases s'
    cases s
    cases o
    rfl
  rw [e]
  exact ⟨.ref p, _, J, rfl, q ns p pw hm hn⟩
/-- sorted(set(x)): the ints, each once, rising -/
def wISet (T : Tm) : Tm := fun env Q E => T env (fun d env1 => ∃ ns : List Int, d = .lst (ns.map D.int) ∧ ns.length < 64 ∧ ∀ ms : List Int, (∀ k, k ∈ ms ↔ k ∈ ns) → ms.Pairwise (· < ·) → Q (.lst (ms.map D.int)) env1) E
theorem dx_iset {a : Expr} {Ta : Tm} {p p2 pos pos2 : Pos} (hK : X.K = S.G.K) (hc : X.calm = true) (hm : X.mg "sorted" = none) (hm2 : X.mg "set" = none) (ha : DB S X a Ta) (hg : Gl X "sorted" := by rfl) (hg2 : Gl X "set" := by rfl)
    (he : starEach [a] X.env = (false, eval a X.env) :: starEach [] X.env := by rfl)
    (he2 : starEach [.Call (.Name "set" p2) [a] [] pos2] X.env = (false, eval (.Call (.Name "set" p2) [a] [] pos2) X.env) :: starEach [] X.env := by rfl) :
    DE S X (.Call (.Name "sorted" p) [.Call (.Name "set" p2) [a] [] pos2] [] pos) (wISet Ta) := ⟨fun W tk => by
  obtain ⟨t, pa, q⟩ := ha.run W tk
  refine ⟨_, pe_callB (cr_sortedSI hc) hg hm (by decide +kernel) (pa_cons (pe_callTy (cr_setOfI hc) hg2 hm2 (by decide +kernel) (pa_cons pa pa_nil he) (by decide) (by decide) he rfl) pa_nil he2) (by decide) (by decide) he2 rfl, fun Z env σ H Q E Q' R hT k x => ?_⟩
  refine q Z env σ H _ E _ R hT (fun Z1 env1 v d H1 R1 t1 r1 h1 => ?_) x
  obtain ⟨ns, rfl, hl, h1⟩ := h1
  obtain ⟨g, vs, rfl, eg, rl⟩ := r1.lst
  obtain rfl := rl.ints
  refine ⟨g, ns, rfl, SqL.of eg, by omega, fun a c na hcn => ?_⟩
  have sm := same_upd (o := SetIO X.w a (fun j => decide (j ∈ ns)) c) na
  refine ⟨a, _, c, rfl, upd_same, by omega, fun ms p pw hm hp => ?_⟩
  have R2 := R1.grow sm
  have sm2 := same_upd (o := HO.lst (ms.map V.int)) hp
  have t2 : Tr Z1 H1 Z1 (upd H1 a (SetIO X.w a (fun j => decide (j ∈ ns)) c)) := .alloc sm
  exact k Z1 env1 _ (.lst (ms.map D.int)) _ (R2.grow sm2) (Tr.trans R1 t1 (Tr.trans R2 t2 (.alloc sm2))) (new_lst R2.oin hp (RepL.of_ints ms)) (h1 ms (fun k => by rw [hm k, decide_eq_true_eq]) pw)⟩
end
end DV

set_option Elab.async false
set_option linter.all false
set_option maxRecDepth 100000
/-! DV27: sorted(x), x a list of rows that are alike, any length. -/
namespace DV
open PySem PySem.Spec PyProof.Rows L2
mutual
/-- rows in rows, n deep at most -/
def pyS : Nat → D → Prop
  | _, .non => True
  | _, .bl _ => True
  | _, .int _ => True
  | _, .str _ => True
  | n + 1, .tup xs => pySL n xs
  | n + 1, .lst xs => pySL n xs
  | _, _ => False
def pySL : Nat → List D → Prop
  | _, [] => True
  | n, x :: xs => pyS n x ∧ pySL n xs
end
section
variable {G : Pg} {P : Program} {w : World} {H Hv : Hp} {h : Heap} {hh : Option Addr}
mutual
theorem rep_readsS (kin : G.K.In h) (ok : HOk P w H h) (sub : ∀ b o, Hv b = some o → H b = some o) : ∀ {v : V} {d : D} {n : Nat}, Rep G Hv hh v d → pyS n d → ∀ {u : Value}, RelV v u → ∃ as, Reads h u (py d) as
  | _, _, _, .non, _, u, r => by
    obtain rfl : u = Value.none := r
    exact ⟨_, .none⟩
  | _, _, _, .bl b, _, u, r => by
    obtain rfl : u = Value.bool b := r
    exact ⟨_, .bool b⟩
  | _, _, _, .int i, _, u, r => by
    obtain ⟨t, rfl⟩ : ∃ t, u = Value.int i t := r
    exact ⟨_, .int i t⟩
  | _, _, _, .str s, _, u, r => by
    obtain ⟨t, rfl⟩ : ∃ t, u = Value.str s t := r
    exact ⟨_, .str s t⟩
  | _, _, 0, .tup _ _, q, _, _ => by simp only [pyS] at q
  | _, _, 0, .lst _ _, q, _, _ => by simp only [pyS] at q
  | _, _, n + 1, .tup e rs, q, u, r => by
    rename_i a vs ds
    obtain rfl : u = Value.ref a := r
    simp only [pyS] at q
    have e2 : SqT G.K H a vs := by
      rcases e with (e | ⟨o, e⟩) | e
      · exact .inl (.inl (sub _ _ e))
      · exact .inl (.inr ⟨o, sub _ _ e⟩)
      · exact .inr e
    rcases e2 with e2 | ⟨o, its, m, e2, c, d, z, vv⟩
    · obtain ⟨_, its, vv, o, e3, c, m, d⟩ := e2.ok ok
      obtain ⟨as, ra⟩ := rep_readsSL kin ok sub rs q vv
      simp only [py]
      exact ⟨_, .tuple e3 c d (by simpa using ra)⟩
    · obtain ⟨as, ra⟩ := rep_readsSL kin ok sub rs q vv
      simp only [py]
      exact ⟨_, .tuple (kin _ _ e2) c d ra⟩
  | _, _, n + 1, .lst e rs, q, u, r => by
    rename_i a vs ds
    obtain rfl : u = Value.ref a := r
    simp only [pyS] at q
    obtain ⟨_, its, m, vv, e3⟩ := ok _ _ (sub _ _ e)
    obtain ⟨as, ra⟩ := rep_readsSL kin ok sub rs q vv
    simp only [py]
    exact ⟨_, .list e3 rfl rfl (by simpa using ra)⟩
  | _, _, n, .dK _ _ _ _, q, _, _ => by cases n <;> simp only [pyS] at q
  | _, _, n, .dT _ _ _ _, q, _, _ => by cases n <;> simp only [pyS] at q
  | _, _, n, .obj _ _ _ _ _, q, _, _ => by cases n <;> simp only [pyS] at q
  | _, _, n, .frz _ _, q, _, _ => by cases n <;> simp only [pyS] at q
  | _, _, n, .hand _, q, _, _ => by cases n <;> simp only [pyS] at q
  | _, _, n, .fn _, q, _, _ => by cases n <;> simp only [pyS] at q
theorem rep_readsSL (kin : G.K.In h) (ok : HOk P w H h) (sub : ∀ b o, Hv b = some o → H b = some o) : ∀ {vs : List V} {ds : List D} {n : Nat}, RepL G Hv hh vs ds → pySL n ds → ∀ {us : List Value}, Vals vs us → ∃ as, ReadsAll h us (pyL ds) as
  | _, _, _, .nil, _, _, r => by
    cases r
    exact ⟨_, .nil⟩
  | _, _, _, .cons r1 rs, q, _, r => by
    cases r with
    | cons a b =>
      simp only [pySL] at q
      obtain ⟨as, x⟩ := rep_readsS kin ok sub r1 q.1 a
      obtain ⟨bs, y⟩ := rep_readsSL kin ok sub rs q.2 b
      simp only [pyL]
      exact ⟨_, .cons x y⟩
end
end
mutual
theorem pyS_depth : ∀ {d : D} {n : Nat}, pyS n d → (py d).depth ≤ n
  | .non, n, _ => Nat.zero_le _
  | .bl _, n, _ => Nat.zero_le _
  | .int _, n, _ => Nat.zero_le _
  | .str _, n, _ => Nat.zero_le _
  | .tup xs, 0, h => by simp only [pyS] at h
  | .lst xs, 0, h => by simp only [pyS] at h
  | .tup xs, n + 1, h => by
    simp only [pyS] at h
    have := pyS_depthL h
    simp only [py, PyData.depth]; omega
  | .lst xs, n + 1, h => by
    simp only [pyS] at h
    have := pyS_depthL h
    simp only [py, PyData.depth]; omega
  | .dct _, n, h => by cases n <;> simp only [pyS] at h
  | .obj _ _, n, h => by cases n <;> simp only [pyS] at h
  | .frz _, n, h => by cases n <;> simp only [pyS] at h
  | .hand, n, h => by cases n <;> simp only [pyS] at h
  | .fn _, n, h => by cases n <;> simp only [pyS] at h
theorem pyS_depthL : ∀ {ds : List D} {n : Nat}, pySL n ds → PyData.depthAll (pyL ds) ≤ n
  | [], n, _ => Nat.zero_le _
  | x :: xs, n, h => by
    simp only [pySL] at h
    have a := pyS_depth h.1
    have b := pyS_depthL h.2
    simp only [pyL, PyData.depthAll]; omega
end
/-- what can be sorted: rows enc b, in the order lt -/
structure SortOk {β : Type} (enc : β → D) (lt : β → β → Bool) : Prop where
  rows : ∀ b, pyS 40 (enc b)
  alike : ∀ b c, PySem.W.alike (py (enc b)) (py (enc c)) = true
  able : (∀ b, ∃ x r, py (enc b) = .tuple (x :: r)) ∨ ∀ b, py (enc b) ≠ .none ∧ ∀ xs, py (enc b) ≠ .tuple xs
  lt_eq : ∀ b c, PySem.W.dataLt (py (enc b)) (py (enc c)) = lt b c
/-- sorted(x) -/
def gSortA : GL := fun ds Q => ∃ (β : Type) (enc : β → D) (lt : β → β → Bool) (bs : List β), ds = [.lst (bs.map enc)] ∧ SortOk enc lt ∧ ∀ ms : List β, ms.Perm bs → ms.Pairwise (fun x y => lt y x = false) → Q (.lst (ms.map enc))
def rSortA (K : PySem.W.Frag) : List V → Hp → VK → Prop := fun xs H Q => ∃ (G : Pg) (Hv : Hp) (hh : Option Addr) (a : Addr) (vs : List V) (β : Type) (enc : β → D) (lt : β → β → Bool) (bs : List β), xs = [.ref a] ∧ K = G.K ∧ (∀ b o, Hv b = some o → H b = some o) ∧ RepL G Hv hh vs (bs.map enc) ∧
  H a = some (.lst vs) ∧ SortOk enc lt ∧ ∀ (ms : List (V × β)) (p : Addr), (ms.map (·.2)).Perm bs → (ms.map (·.2)).Pairwise (fun x y => lt y x = false) → (∀ m ∈ ms, Rep G Hv hh m.1 (enc m.2)) → H p = none → Q (.ref p) (upd H p (.lst (ms.map (·.1))))
section
variable {X : Cx} {S : Ent}
theorem each_of {h : Heap} {β : Type} {G : Pg} {P : Program} {w : World} {H Hv : Hp} {hh : Option Addr} {enc : β → D} {lt : β → β → Bool} (so : SortOk enc lt) (kin : G.K.In h) (ok : HOk P w H h) (sub : ∀ b o, Hv b = some o → H b = some o) : ∀ {vs : List V} {us : List Value} {bs : List β}, RepL G Hv hh vs (bs.map enc) → Vals vs us →
    PySem.W.EachIs (fun (u : Value) (p : V × β) => RelV p.1 u ∧ Rep G Hv hh p.1 (enc p.2)) us (vs.zip bs) ∧ PySem.W.EachIs (fun (u : Value) (p : V × β) => ∃ as, Reads h u (py (enc p.2)) as) us (vs.zip bs) ∧ vs.length = bs.length
  | _, _, [], r, v => by cases r; cases v; exact ⟨.nil, .nil, rfl⟩
  | _, _, b :: bs, r, v => by
    cases r with
    | cons r1 rs =>
      cases v with
      | cons v1 vs =>
        obtain ⟨h1, h2, h3⟩ := each_of so kin ok sub rs vs
        exact ⟨.cons ⟨v1, r1⟩ h1, .cons (rep_readsS kin ok sub r1 (so.rows b) v1) h2, congrArg (· + 1) h3⟩
theorem each_vals {β : Type} {G : Pg} {Hv : Hp} {hh : Option Addr} {enc : β → D} : ∀ {us : List Value} {ms : List (V × β)}, PySem.W.EachIs (fun (u : Value) (p : V × β) => RelV p.1 u ∧ Rep G Hv hh p.1 (enc p.2)) us ms → Vals (ms.map (·.1)) us ∧ ∀ m ∈ ms, Rep G Hv hh m.1 (enc m.2)
  | _, _, .nil => ⟨.nil, fun m h => by cases h⟩
  | _, _, .cons h t => by
    obtain ⟨a, b⟩ := each_vals t
    refine ⟨.cons h.1 a, fun m hm => ?_⟩
    rcases List.mem_cons.mp hm with rfl | hm
    · exact h.2
    · exact b m hm
theorem cr_sortA (hu : X.A.units + 65 < cLine) : CallR X (.builtin "sorted") (rSortA X.K) := by
  intro pz s σ H xs us Q I r h
  obtain ⟨G, Hv, hh, a, vs, β, enc, lt, bs, rfl, eK, sub, rs, ea, so, q⟩ := h
  obtain ⟨u, rfl, ru⟩ := vals1 r
  obtain rfl : u = Value.ref a := ru
  have kin : G.K.In s.heap := by rw [← eK]; exact I.kIn
  obtain ⟨hz, its, m, vv, e3⟩ := I.hok _ _ ea
  obtain ⟨h1, h2, h3⟩ := each_of so kin I.hok sub rs vv
  have hL : (vs.zip bs).length ≤ sizeLine := by
    rw [List.length_zip, h3, Nat.min_self, ← h3]; exact hz
  have key : ∀ p : V × β, (fun p : V × β => py (enc p.2)) p = py (enc p.2) := fun _ => rfl
  refine PySem.W.sorted_data (enc := fun p : V × β => py (enc p.2)) (vs := its) ⟨_, e3, rfl, by simp⟩ h1 h2 (PySem.W.AllAlike.of fun b c => so.alike b.2 c.2) ?_ hL (fun b _ => ?_) fun out hol he => ?_
  · rcases so.able with ab | ab
    · exact PySem.W.Sortable.tuples fun b => ab b.2
    · exact PySem.W.Sortable.others fun b => ab b.2
  · have := pyS_depth (so.rows b.2)
    show X.A.units + 2 + (py (enc b.2)).depth < cLine
    omega
  · obtain ⟨ep, he'⟩ := PyProof.Rows.sortedAll_at s.heap its out.toArray
    obtain ⟨hv, hr⟩ := each_vals he
    have pm : ((vs.zip bs).mergeSort (PySem.W.dataLe false fun p : V × β => py (enc p.2))).Perm (vs.zip bs) := List.mergeSort_perm _ _
    have ps : ((vs.zip bs).mergeSort (PySem.W.dataLe false fun p : V × β => py (enc p.2))).Pairwise (fun x y => lt y.2 x.2 = false) := by
      refine List.Pairwise.imp ?_ (PySem.W.sort_pairwise (PySem.W.sortLe_total _ false _) (vs.zip bs))
      intro x y hxy
      have e : PySem.W.dataLe false (fun p : V × β => py (enc p.2)) x y = true := hxy
      rw [PySem.W.dataLe_eq] at e
      have e : (!PySem.W.dataLt (py (enc y.2)) (py (enc x.2))) = true := e
      rw [so.lt_eq] at e
      simpa using e
    have pm2 : (((vs.zip bs).mergeSort (PySem.W.dataLe false fun p : V × β => py (enc p.2))).map (·.2)).Perm bs := by
      have := pm.map (·.2)
      rwa [List.map_snd_zip (by omega)] at this
    have hlen : (((vs.zip bs).mergeSort (PySem.W.dataLe false fun p : V × β => py (enc p.2))).map (·.1)).length ≤ sizeLine := by
      rw [List.length_map, pm.length_eq]; exact hL
    generalize (vs.zip bs).mergeSort (PySem.W.dataLe false fun p : V × β => py (enc p.2)) = ms at *
    exact ⟨.ref _, upd H (s.heap.objs.size + 1) (.lst (ms.map (·.1))), I.laid (t' := s.toks) (fun _ _ => PyProof.Rows.sortedAll_old) (Nat.le_succ _) ⟨hlen, out, ep, hv, he'⟩, rfl, q ms _ pm2 (List.pairwise_map.mpr ps) hr (I.hok.fresh (Nat.le_succ _))⟩
theorem repL_of {β : Type} {G : Pg} {Hv : Hp} {hh : Option Addr} {enc : β → D} : ∀ {ms : List (V × β)}, (∀ m ∈ ms, Rep G Hv hh m.1 (enc m.2)) → RepL G Hv hh (ms.map (·.1)) ((ms.map (·.2)).map enc)
  | [], _ => .nil
  | m :: ms, h => .cons (h m List.mem_cons_self) (repL_of fun n hn => h n (List.mem_cons_of_mem _ hn))
theorem cd_sortA (hK : X.K = S.G.K) (hu : X.A.units + 65 < cLine) : CallD S X (.builtin "sorted") gSortA := by
  refine ⟨_, cr_sortA hu, fun Z H vs ds Qd Q' hl hr hg k oin => ?_⟩
  obtain ⟨β, enc, lt, bs, rfl, so, hg⟩ := hg
  obtain ⟨v, rfl, r⟩ := one_of hl hr
  obtain ⟨p, ws, rfl, ep, rp⟩ := r.lst
  refine ⟨S.G, _, _, p, ws, β, enc, lt, bs, rfl, hK, fun b o e => (vis_some e).2, rp, ep, so, fun ms p2 pm ps hrm hp => ?_⟩
  exact k _ _ _ (same_upd hp) (new_lst oin hp (repL_of hrm)) (hg _ pm ps)
end
/-! ### what is sorted -/
theorem pyL_ints : ∀ l : List Int, pyL (l.map D.int) = l.map .int
  | [] => rfl
  | x :: l => by simp only [List.map_cons, pyL, py, pyL_ints l]
theorem py_dT (l : List Int) : py (dT l) = .tuple (l.map .int) := by
  unfold dT
  simp only [py, pyL_ints]
theorem pySL_ints : ∀ {l : List Int} {n : Nat}, pySL n (l.map D.int)
  | [], n => by simp only [List.map_nil, pySL]
  | x :: l, n => by simp only [List.map_cons, pySL, pyS, pySL_ints (l := l), and_self]
theorem pyS_dT {l : List Int} {n : Nat} : pyS (n + 1) (dT l) := by
  unfold dT
  simp only [pyS]
  exact pySL_ints
/-- tuples of ints with an item at least -/
abbrev NeT := { l : List Int // l ≠ [] }
theorem so_tups : SortOk (fun b : NeT => dT b.1) (fun b c => lx b.1 c.1) where
  rows b := pyS_dT
  alike b c := by
    rw [py_dT, py_dT]
    exact PySem.W.DatumOrd.alike (PySem.W.Tup.mk b.1) (PySem.W.Tup.mk c.1)
  able := .inl fun b => by
    rw [py_dT]
    obtain ⟨l, h⟩ := b
    cases l with
    | nil => exact absurd rfl h
    | cons x l => exact ⟨_, _, rfl⟩
  lt_eq b c := by
    rw [py_dT, py_dT]
    exact dlt_tD b.1 c.1
/-- (n, tuple of ints) -/
def dP (p : Int × List Int) : D := .tup [.int p.1, dT p.2]
def lxP (p q : Int × List Int) : Bool := if p.1 = q.1 then lx p.2 q.2 else decide (p.1 < q.1)
theorem py_dP (p : Int × List Int) : py (dP p) = PySem.W.Datum.toD (p.1, PySem.W.Tup.mk p.2) := by
  unfold dP
  simp only [py, pyL, py_dT]
  rfl
theorem so_pairs : SortOk dP lxP where
  rows p := by
    unfold dP
    simp only [pyS, pySL, and_true, true_and]
    exact pyS_dT
  alike b c := by rw [py_dP, py_dP]; exact PySem.W.DatumOrd.alike _ _
  able := .inl fun b => by rw [py_dP]; exact ⟨_, _, rfl⟩
  lt_eq b c := by
    rw [py_dP, py_dP, PySem.W.DatumOrd.lt_eq]
    show (if b.1 = c.1 then _ else _) = (if _ then _ else _)
    by_cases h : b.1 = c.1
    · rw [if_pos h, if_pos h]; exact lx_eq _ _
    · rw [if_neg h, if_neg h]; rfl
theorem so_ints : SortOk D.int (fun b c => decide (b < c)) where
  rows p := by simp only [pyS]
  alike b c := by simp only [py]; exact PySem.W.DatumOrd.alike b c
  able := .inr fun b => ⟨fun e => (by unfold py at e; cases e), fun xs e => (by unfold py at e; cases e)⟩
  lt_eq b c := by simp only [py]; exact PySem.W.DatumOrd.lt_eq b c
end DV

set_option Elab.async false
set_option linter.all false
set_option maxRecDepth 100000
/-! DV28: objects of a class of the program's own whose fields are set by __init__ and stay. -/
namespace DV
open PySem PySem.Spec PyProof.Rows L2
theorem RB.obj {G : Pg} {Z : Zs} {H : Hp} {v : V} {c : Str} {fs : List (Str × D)} (r : RB G Z H v (.obj c fs)) : ∃ (a C dx : Addr) (vfs : List (Str × V)) (ds : List D), v = .ref a ∧ G.CT c = some C ∧ H a = some (.ins C dx vfs) ∧ RepL G (vis Z.O H) Z.h (vfs.map (·.2)) ds ∧ fs = (vfs.map (·.1)).zip ds := by
  rcases r with r | ⟨_, _, _, _, e, _⟩ | ⟨_, _, _, _, _, e, _⟩
  · cases r with
    | obj ec e e1 rl e2 =>
      subst e1
      exact ⟨_, _, _, _, _, rfl, ec, (vis_some e).2, rl, e2⟩
  · cases e
  · cases e
theorem lookup_rep {G : Pg} {H : Hp} {hh : Option Addr} {f : Str} {d : D} : ∀ {vfs : List (Str × V)} {ds : List D}, RepL G H hh (vfs.map (·.2)) ds → ((vfs.map (·.1)).zip ds).lookup f = some d → ∃ v, vfs.lookup f = some v ∧ Rep G H hh v d
  | [], _, _, h => by simp at h
  | (g, v) :: vfs, _, r, h => by
    cases r with
    | cons r1 rs =>
      rw [List.map_cons, List.zip_cons_cons, List.lookup_cons] at h
      rw [List.lookup_cons]
      cases q : f == g with
      | true =>
        rw [q] at h
        cases h
        exact ⟨v, rfl, r1⟩
      | false =>
        rw [q] at h
        exact lookup_rep rs h
section
variable {S : Ent} {X : Cx} {e : Expr} {Te : Tm} {pos : Pos}
/-- d has the field f, and Q says of it .. -/
def fldIs (d : D) (f : Str) (Q : D → Prop) : Prop := ∃ c fs x, d = .obj c fs ∧ fs.lookup f = some x ∧ Q x
/-- e.f -/
def wFld (f : Str) (T : Tm) : Tm := fun env Q E => T env (fun d env1 => fldIs d f fun x => Q x env1) E
theorem dx_fld {f : Str} (hK : X.K = S.G.K) (hO : ∀ c C, S.G.CT c = some C → Cls S.G.K C ∧ NoAttr S.G.K C f) (h : DB S X e Te) (hb : attributeBase e f X.env (eval e X.env) = eval e X.env := by rfl) :
    DE S X (.Attribute e f pos) (wFld f Te) := ⟨fun W tk => by
  obtain ⟨t, p, q⟩ := h.run W tk
  refine ⟨_, pe_fld p hb, fun Z env σ H Q E Q' R hT k x => ?_⟩
  refine q Z env σ H _ E _ R hT (fun Z1 env1 v d H1 R1 t1 r1 h1 => ?_) x
  obtain ⟨c, fs, y, rfl, hl, h1⟩ := h1
  obtain ⟨a, C, dx, vfs, ds, rfl, ec, ea, rl, rfl⟩ := r1.obj
  obtain ⟨v, ev, rv⟩ := lookup_rep rl hl
  obtain ⟨o1, o2⟩ := hO c C ec
  exact ⟨a, C, dx, vfs, v, rfl, ea, by rw [hK]; exact o1, by rw [hK]; exact o2, ev, k Z1 env1 v y H1 R1 t1 rv h1⟩⟩
end
/-! ### a suite with a tail of the machine's own -/
structure DSt (S : Ent) (X : Cx) (st : List Stmt) (T : Ts) (tt : TS) : Prop where
  run : ∀ W, Takes X W → Pas X → ∃ t, PSs X st t ∧ ∀ Z env σ H P D', Rel S Z env σ H → T env P → Fits S Z H P { D' with nx := tt D' } W → t D' σ H
section
variable {S : Ent} {X : Cx} {st : Stmt} {rest tail : List Stmt} {T T2 : Ts} {tt : TS}
theorem dst_nil (h : PSs X tail tt) : DSt S X tail wSkip tt := ⟨fun W tk pa => ⟨tt, h, fun Z env σ H P D' R hT f => f.nx Z env σ H R .refl hT⟩⟩
theorem dst_cons (h : DS S X st T) (h2 : DSt S X rest T2 tt) : DSt S X (st :: rest) (wSeq T T2) tt := ⟨fun W tk pa => by
  obtain ⟨t, p, q⟩ := h.run W tk pa
  obtain ⟨t2, p2, q2⟩ := h2.run W tk pa
  exact ⟨_, pss_cons p p2, fun Z env σ H P D' R hT f => q Z env σ H _ { D' with nx := t2 D' } R hT ⟨fun Z' e s H' R' v hn => q2 Z' e s H' P D' R' hn (f.on v), f.rt, f.bk, f.ct, f.ex, f.rf⟩⟩⟩
end
/-! ### __init__ -/
/-- what a body is worth whose fields are the names' last values -/
def wInit (c : Str) (fl : List (Str × Nat)) (n : Nat) (B : Ts) : Fn := fun ds Q E => ∀ x, B (.pin x none [] :: ds.map Sl.val ++ List.replicate (n - ds.length - 1) .no)
  { nx := fun e => e[0]? = some (.pin x none []) ∧ ∃ xs : List D, fl.map (fun p => e[p.2]?) = xs.map (fun d => some (.val d)) ∧ Q (.obj c ((fl.map (·.1)).zip xs)), rt := fun _ _ => False, bk := fun _ => False, ct := fun _ => False, ex := fun er _ => E er }
/-- an __init__'s promise -/
def spI (G : Pg) (c : Str) (n : Nat) (T : Fn) : Sp := fun vs H Q E => ∃ (x C dx : Addr) (ws : List V) (Z : Zs) (ds : List D) (Qd : D → Prop) (Ed : Er → Prop), vs = .ref x :: ws ∧ ws.length = n ∧ ds.length = n ∧ G.CT c = some C ∧ H x = some (.ins C dx []) ∧ Z.h ≠ some x ∧ x ∉ Z.O ∧ (∀ a ∈ Z.O, H a ≠ none) ∧ (∀ a, Z.h = some a → HandOk Z.O H a) ∧ RepL G (vis (x :: Z.O) H) Z.h ws ds ∧ LamX.Tabs G.T H ∧ T ds Qd Ed ∧
  (∀ d H', (∀ b o, b ≠ x → H b = some o → Z.h ≠ some b → Ex1 H' b o) → (∀ a, Z.h = some a → HandOk Z.O H' a) → LamX.Tabs G.T H' → RS G Z H' (.ref x) d → Qd d → Q .non H') ∧
  (∀ er cls dd H', (∀ b o, H b = some o → Z.h ≠ some b → Ex1 H' b o) → (∀ a, Z.h = some a → HandOk Z.O H' a) → LamX.Tabs G.T H' → ErrOk G Z H' cls dd er → Ed er → E cls dd H')
/-- self.f = f, .. -/
def puts (K : PySem.W.Frag) : List (Str × Nat) → TS
  | [] => tNext
  | (f, i) :: r => tSeq (sFld K (tVar 0) (tVar i) f) (puts K r)
theorem putF_app {f : Str} {v : V} : ∀ {fs : List (Str × V)}, f ∉ fs.map (·.1) → putF f v fs = fs ++ [(f, v)]
  | [], _ => rfl
  | (g, x) :: r, h => by
    rw [List.map_cons, List.mem_cons, not_or] at h
    show (if g = f then _ else _) = _
    rw [if_neg (fun e => h.1 e.symm), putF_app h.2]; rfl
theorem puts_run {K : PySem.W.Frag} {C dx x : Addr} {D' : Ends} {σ : L2.St} (cl : Cls K C) (h0 : σ[0]? = some (some (.ref x))) : ∀ {fl : List (Str × Nat)} {vs : List V} {H : Hp} {vf : List (Str × V)}, fl.map (fun p => σ[p.2]?) = vs.map (fun v => some (some v)) → (∀ p ∈ fl, NoAttr K C p.1) → (vf.map (·.1) ++ fl.map (·.1)).Nodup → vf.length + fl.length < 1000 → H x = some (.ins C dx vf) →
    (∀ H', H' x = some (.ins C dx (vf ++ (fl.map (·.1)).zip vs)) → (∀ b, b ≠ x → H' b = H b) → D'.nx σ H') → puts K fl D' σ H
  | [], [], H, vf, _, _, _, _, hx, k => k H (by rw [hx]; simp) fun _ _ => rfl
  | [], _ :: _, _, _, e, _, _, _, _, _ => by cases e
  | _ :: _, [], _, _, e, _, _, _, _, _ => by cases e
  | (f, i) :: fl, v :: vs, H, vf, e, hn, nd, hl, hx, k => by
    rw [List.map_cons, List.map_cons, List.cons.injEq] at e
    have hf : f ∉ vf.map (·.1) := fun hm => by
      rw [List.nodup_append] at nd
      exact nd.2.2 f hm f List.mem_cons_self rfl
    refine ⟨v, e.1, .ref x, h0, x, C, dx, vf, rfl, hx, cl, hn _ List.mem_cons_self, by omega, ?_⟩
    rw [putF_app hf]
    refine puts_run cl h0 e.2 (fun p hp => hn p (List.mem_cons_of_mem _ hp)) ?_ ?_ upd_same fun H' h1 h2 => k H' ?_ fun b hb => (h2 b hb).trans (upd_ne hb)
    · rw [List.map_append, List.append_assoc]
      exact nd
    · rw [List.length_append, List.length_singleton]
      simp only [List.length_cons] at hl
      omega
    · rw [h1, List.append_assoc]; rfl
theorem rep_slots {S : Ent} {Z : Zs} {env : Env} {σ : L2.St} {H : Hp} (R : Rel S Z env σ H) : ∀ {fl : List (Str × Nat)} {xs : List D}, fl.map (fun p => env[p.2]?) = xs.map (fun d => some (.val d)) → ∃ vs : List V, fl.map (fun p => σ[p.2]?) = vs.map (fun v => some (some v)) ∧ RepL S.G (vis Z.O H) Z.h vs xs
  | [], [], _ => ⟨[], rfl, .nil⟩
  | [], _ :: _, e => by cases e
  | _ :: _, [], e => by cases e
  | (f, i) :: fl, x :: xs, e => by
    rw [List.map_cons, List.map_cons, List.cons.injEq] at e
    obtain ⟨vs, h1, h2⟩ := rep_slots R e.2
    obtain ⟨v, ev, rv⟩ := R.slots i _ e.1
    exact ⟨v :: vs, by rw [List.map_cons, List.map_cons, h1, ev], .cons rv h2⟩
theorem plain_ins {C dx : Addr} {fs : List (Str × V)} : Pln (.ins C dx fs) := ⟨(fun _ z => by cases z), fun _ _ z => by unfold LamX.CodeO at z; cases z⟩
theorem tabs_at {T : List (Addr × Str)} {H H' : Hp} {x : Addr} {u : HO} (t : LamX.Tabs T H) (e : H x = some u) (p : Pln u) (k : ∀ b, b ≠ x → H' b = H b) : LamX.Tabs T H' := tabs_keep t fun b w eb hw => by
  rw [k b]
  · exact eb
  · intro z
    subst z
    rw [e] at eb; cases eb
    rcases hw with ⟨ps, z⟩ | ⟨c, q, z⟩
    · exact p.1 _ z
    · exact p.2 _ _ z
theorem hand_in {O : List Addr} {H : Hp} {a x C dx : Addr} {vf : List (Str × V)} (hx : H x = some (.ins C dx vf)) (h : HandOk O H a) : HandOk (x :: O) H a := by
  obtain ⟨h1, c, cells, p, big, st, cnt, e1, nc, e2, q⟩ := h
  refine ⟨List.mem_cons_of_mem _ h1, c, cells, p, big, st, cnt, e1, fun hc => ?_, e2, q⟩
  rcases List.mem_cons.mp hc with rfl | hc
  · rw [hx] at e2; cases e2
  · exact nc hc
theorem hand_out {O : List Addr} {H H' : Hp} {a x : Addr} (k : ∀ b, b ≠ x → H' b = H b) (ha : a ∈ O) (nx : a ≠ x) (h : HandOk (x :: O) H a) : HandOk O H' a := by
  obtain ⟨h1, c, cells, p, big, st, cnt, e1, nc, e2, q⟩ := h
  rw [List.mem_cons, not_or] at nc
  exact ⟨ha, c, cells, p, big, st, cnt, by rw [k _ nx]; exact e1, nc.2, by rw [k _ nc.1]; exact e2, q⟩
theorem entry_init {G : Pg} {Z : Zs} {H : Hp} {x C dx : Addr} {vs : List V} {ds : List D} {N : List Str} (hx : H x = some (.ins C dx [])) (nh : Z.h ≠ some x) (no : x ∉ Z.O) (oin : ∀ a ∈ Z.O, H a ≠ none) (hh : ∀ a, Z.h = some a → HandOk Z.O H a) (r : RepL G (vis (x :: Z.O) H) Z.h vs ds) (tt : LamX.Tabs G.T H) (hn : 1 + ds.length ≤ N.length) :
    Rel ⟨G, ⟨x :: Z.O, Z.h, []⟩, H⟩ ⟨x :: Z.O, Z.h, []⟩ (.pin x none [] :: ds.map Sl.val ++ List.replicate (N.length - ds.length - 1) .no) (L2.start N (.ref x :: vs)) H := by
  have hl := r.length
  have oin2 : ∀ a ∈ x :: Z.O, H a ≠ none := fun a ha => by
    rcases List.mem_cons.mp ha with rfl | ha
    · rw [hx]; simp
    · exact oin a ha
  refine ⟨oin2, fun _ h => h, fun a ha => hand_in hx (hh a ha), rfl, fun b o e _ => .of e, oin2, fun a h => .inl h, ?_, fun i y e => ?_, fun i j y z a e1 _ o1 _ _ _ => ?_, fun a ha => absurd ha (by simp), tt, fun a h => .inl h⟩
  · unfold L2.start
    simp [hl]; omega
  · cases i with
    | zero =>
      cases e
      refine ⟨?_, rfl⟩
      unfold L2.start; rfl
    | succ i =>
      have e : (ds.map Sl.val ++ List.replicate (N.length - ds.length - 1) .no)[i]? = some y := by simpa using e
      have es : (L2.start N (.ref x :: vs))[i + 1]? = (vs.map some ++ List.replicate (N.length - (vs.length + 1)) none)[i]? := by
        unfold L2.start
        simp
      by_cases hi : i < ds.length
      · rw [List.getElem?_append_left (by simpa using hi), List.getElem?_map, List.getElem?_eq_getElem hi] at e
        cases e
        obtain ⟨v, ev, rv⟩ := r.get (List.getElem?_eq_getElem hi)
        refine ⟨v, ?_, rv⟩
        rw [es, List.getElem?_append_left (by rw [List.length_map]; omega), List.getElem?_map, ev]
        rfl
      · rw [List.getElem?_append_right (by simpa using hi), List.getElem?_replicate] at e
        split at e
        · cases e; trivial
        · cases e
  · cases i with
    | zero => cases e1; cases o1
    | succ i =>
      have e1 : (ds.map Sl.val ++ List.replicate (N.length - ds.length - 1) .no)[i]? = some y := by simpa using e1
      by_cases hi : i < ds.length
      · rw [List.getElem?_append_left (by simpa using hi), List.getElem?_map, List.getElem?_eq_getElem hi] at e1
        cases e1; cases o1
      · rw [List.getElem?_append_right (by simpa using hi), List.getElem?_replicate] at e1
        split at e1
        · cases e1; cases o1
        · cases e1
/-- THE RULE of an __init__ -/
theorem init_ok {P : Program} {w : World} {G : Pg} {mg : Str → Option Value} {base : Heap} {y qual c : Str} {st : Stmt} {f C : Addr} {fd : FuncData} {N ps : List Str} {k n : Nat} {B : Ts} {fl : List (Str × Nat)} (F : Fun G.K y qual st f fd) (Sc : FnScope N ps (defScope st)) (hn : n + 1 = ps.length) (hN : n + 1 ≤ N.length)
    (hC : G.CT c = some C) (cl : Cls G.K C) (hna : ∀ p ∈ fl, NoAttr G.K C p.1) (hnd : (fl.map (·.1)).Nodup) (hfl : fl.length < 1000)
    (hbody : ∀ (cdv : Value) (A : Around) (outer : List PySem.Env) (s : Shared) (H : Hp) (E : XK) (S : Ent), S.G = G → Room k (A.deeper (envOfC qual (defScope st) s.heap.objs.size f cdv)) →
      DSt S (cxOf (L2.CX P w) P w G.K mg base N qual (defScope st) f cdv A outer s H E) (defBody st) B (puts G.K fl)) : FnOk P w G.K mg base (L2.CX P w) (k + 1) f fd ps (spI G c n (wInit c fl N.length B)) := by
  refine F.okX Sc (fun vs H Q E h => ?_) fun cdv A outer s H vs Q E hr h => ?_
  · obtain ⟨x, C', dx, ws, _, _, _, _, rfl, hl, _⟩ := h
    rw [List.length_cons, hl, hn]
  · obtain ⟨x, C', dx, ws, Z, ds, Qd, Ed, rfl, hl, hl2, hC', hx, nh, no, oin, hh, r, tt, hT, kq, ke⟩ := h
    rw [hC] at hC'
    cases hC'
    have R := entry_init (N := N) hx nh no oin hh r tt (by omega)
    obtain ⟨t, p, q⟩ := (hbody cdv A outer s H E ⟨G, ⟨x :: Z.O, Z.h, []⟩, H⟩ rfl hr).run (fun cls d _ H => E cls d H) (takes_of rfl rfl rfl rfl) PassesOwn.leaving
    have hin : ∀ a, Z.h = some a → a ∈ Z.O := fun a ha => (hh a ha).1
    have same : ∀ {Z' : Zs} {env : Env} {σ : L2.St} {H' H2 : Hp}, Rel ⟨G, ⟨x :: Z.O, Z.h, []⟩, H⟩ Z' env σ H' → (∀ b, b ≠ x → H2 b = H' b) → Same (vis Z'.O H') (vis Z.O H2) := fun {Z' env σ H' H2} R' kk b o e => by
      obtain ⟨h1, h2⟩ := vis_some e
      have h3 : b ∉ x :: Z.O := fun z => h1 (R'.sub b z)
      rw [List.mem_cons, not_or] at h3
      exact vis_out h3.2 (by rw [kk b h3.1]; exact h2) (vis_nt e)
    refine ⟨t, p, q _ _ _ H _ _ R (hT x) ⟨fun Z' e s H' R' v h => ?_, fun Z' e s v d H' R' vl rv h => h.elim, fun _ _ _ _ _ _ h => h.elim, fun _ _ _ _ _ _ h => h.elim, fun σ' Z' e cls dd er H' R' vl eo h => ?_, fun _ _ _ _ _ _ _ _ _ _ _ h => h.elim⟩⟩
    · obtain ⟨h0, xs, h1, h2⟩ := h
      obtain ⟨es0, _⟩ := R'.slots 0 _ h0
      obtain ⟨vs, ev, rv⟩ := rep_slots R' h1
      have hx' : H' x = some (.ins C dx []) := (R'.frame x _ hx nh).get fun ps z => by cases z
      refine puts_run cl es0 ev hna (by simpa using hnd) (by simpa using hfl) hx' fun H2 e1 e2 => ?_
      have ll : (fl.map (·.1)).length = vs.length := by
        have := congrArg List.length ev
        simpa using this
      have ff : ((fl.map (·.1)).zip vs).map (·.2) = vs := List.map_snd_zip (by omega)
      have fg : ((fl.map (·.1)).zip vs).map (·.1) = fl.map (·.1) := List.map_fst_zip (by omega)
      refine kq (.obj c ((fl.map (·.1)).zip xs)) H2 (fun b o hb eb en => ?_) (fun a ha => ?_) (tabs_at R'.tabs hx' plain_ins e2) ?_ h2
      · obtain ⟨o', q1, q2⟩ := R'.frame b o eb en
        exact ⟨o', by rw [e2 b hb]; exact q1, q2⟩
      · have := exit_hand R' (fun a ha => List.mem_cons_of_mem _ (hin a ha)) a ha
        exact hand_out e2 (hin a ha) (fun z => nh (by rw [← z]; exact ha)) this
      · exact .obj (vfs := (fl.map (·.1)).zip vs) (vs := vs) (ds := xs) hC (vis_out no (by rw [e1, List.nil_append])) ff.symm (rv.mono (same R' e2) fun a ha => R'.hsub.symm.trans ha) (by rw [fg])
    · refine ke er cls dd H' R'.frame (fun a ha => ?_) R'.tabs ?_ h
      · have := exit_hand R' (fun a ha => List.mem_cons_of_mem _ (hin a ha)) a ha
        exact hand_out (fun _ _ => rfl) (hin a ha) (fun z => nh (by rw [← z]; exact ha)) this
      · obtain ⟨C2, e1, e2, e3⟩ := eo
        exact ⟨C2, e1, e2, e3.mono (same R' fun _ _ => rfl) fun a ha => R'.hsub.symm.trans ha⟩
/-! ### C(..) -/
section
variable {X : Cx} {CX : CXT} {k : Nat} {f C : Addr} {fd : FuncData} {ps : List Str} {sp : Sp} {E : L2.St → XK} {x : Str} {p pos : Pos} {e : Expr} {es : List Expr} {t : TA}
theorem run_makeS {pins : List (Addr × Obj)} {σ : L2.St} {H : Hp} {s : Shared} {Q : VK} {us : List Value} {vs : List V} (M : Mk X.K C f) (F : FnOk X.prog X.w X.K X.mg X.base CX k f fd ps sp) (hr : Room (k + 1) X.A) (hb : Binds X.K fd ps [])
    (hx : PassesAt CX X σ (E σ)) (I : Inv X pins σ H s) (r : Vals vs us)
    (h : ∀ x dx, H x = none → H dx = none → dx ≠ x → sp (.ref x :: vs) (upd (upd H dx (.own x)) x (.ins C dx [])) (fun v H2 => v = .non ∧ Q (.ref x) H2) (E σ)) :
    wpAny (model X.prog X.w) X.A (call (.ref C) us) (EP X pins σ Q) X.xe s := by
  have hq := h (s.heap.objs.size + 1) s.heap.objs.size (I.hok.fresh (Nat.le_succ _)) (I.hok.fresh (Nat.le_refl _)) (Nat.ne_of_lt (Nat.lt_succ_self _))
  have I2 := Inv.made (C := C) I
  have r2 : Vals (V.ref (s.heap.objs.size + 1) :: vs) (Value.ref (s.heap.objs.size + 1) :: us) := .cons rfl r
  have hl : (Value.ref (s.heap.objs.size + 1) :: us).length = ps.length := by
    have e := r2.length
    rw [F.len _ _ _ _ hq] at e
    exact e.symm
  have b := hb _ (Value.ref (s.heap.objs.size + 1) :: us) I2.kIn (by rw [List.append_nil]; exact hl)
  rw [List.append_nil] at b
  refine wpAny_call (make_map (f := f) I.kIn M.makes M.init (beq_iff_eq.mp M.fn) (codeAny_mono (F.run _ X.stack _ _ ⟨Value.ref (s.heap.objs.size + 1) :: us, []⟩ (Value.ref (s.heap.objs.size + 1) :: us) _ _ (E σ) (hr.make C us [])
    (I2.env0.make C us []) b r2 hq) fun r s' hq' => ?_))
  cases r with
  | error e => exact hx pins _ _ e s' I2 hq'
  | ok fl =>
    cases fl with
    | ret u =>
      obtain ⟨v, H', I3, rv, ev, q3⟩ := I2.after hq'
      subst ev
      exact ⟨rv, ⟨V.ref (s.heap.objs.size + 1), H', I3, rfl, q3⟩⟩
    | next => exact False.elim hq'
    | brk => exact False.elim hq'
    | cont => exact False.elim hq'
def tMakeS (C : Addr) (sp : Sp) (E : L2.St → XK) (t : TA) : TE := fun σ H Q => t σ H fun vs H1 => ∀ x dx, H1 x = none → H1 dx = none → dx ≠ x → sp (.ref x :: vs) (upd (upd H1 dx (.own x)) x (.ins C dx [])) (fun v H2 => v = .non ∧ Q (.ref x) H2) (E σ)
theorem pe_makeS (M : Mk X.K C f) (F : FnOk X.prog X.w X.K X.mg X.base CX k f fd ps sp) (hr : Room (k + 1) X.A) (hg : Gl X x) (hm : X.mg x = some (.ref C)) (hb : Binds X.K fd ps []) (hx : ∀ σ, PassesAt CX X σ (E σ))
    (ha : PA X (e :: es) t) (hdb : (x == ("__debug__" : Str)) = false := by decide) (he : starEach (e :: es) X.env = (false, eval e X.env) :: starEach es X.env := by rfl) (hpl : (backTo pos (starEach es X.env)).any (·.1) = false := by rfl) :
    PE X (.Call (.Name x p) (e :: es) [] pos) (tMakeS C sp E t) := by
  refine ⟨fun pins s σ H Q I h => ?_⟩
  refine wpAny_Call_Name_kw (ld_glob I hg hm ?_ hdb)
  refine PySem.W.callWith_K (h₀ := X.base) I.ok.mod.kin M.kp (thn (ha.run pos pins s σ H _ I h) fun us s1 ⟨vs, H1, I1, r, q⟩ => ⟨I1.kIn, ?_⟩) he hpl
  exact run_makeS M F hr hb (hx σ) I1 r q
end
/-- a class that may be called by the name y -/
structure Mak (P : Program) (w : World) (G : Pg) (mg : Str → Option Value) (base : Heap) (y c : Str) (k n : Nat) (T : Fn) : Prop where
  ex : ∃ C f fd ps, mg y = some (.ref C) ∧ G.CT c = some C ∧ Mk G.K C f ∧ Binds G.K fd ps [] ∧ FnOk P w G.K mg base (L2.CX P w) k f fd ps (spI G c n T)
theorem Mak.mono {P : Program} {w : World} {G : Pg} {mg : Str → Option Value} {base : Heap} {y c : Str} {j k n : Nat} {T : Fn} (h : Mak P w G mg base y c j n T) (l : j ≤ k) : Mak P w G mg base y c k n T := by
  obtain ⟨C, f, fd, ps, h1, h2, h3, h4, h5⟩ := h.ex
  exact ⟨C, f, fd, ps, h1, h2, h3, h4, h5.mono l⟩
section
variable {S : Ent} {X : Cx} {x c : Str} {e : Expr} {es : List Expr} {T : TmL} {p pos : Pos}
theorem dx_make {n k : Nat} {F : Fn} (C : Mak X.prog X.w S.G X.mg X.base x c k n F) (hK : X.K = S.G.K) (hr : Room (k + 1) X.A) (ha : DA S RS X (e :: es) T) (hg : Gl X x := by rfl) (hdb : (x == ("__debug__" : Str)) = false := by decide)
    (he : starEach (e :: es) X.env = (false, eval e X.env) :: starEach es X.env := by rfl) (hpl : (backTo pos (starEach es X.env)).any (·.1) = false := by rfl) : DE S X (.Call (.Name x p) (e :: es) [] pos) (wCall n F T) := ⟨fun W tk => by
  obtain ⟨ta, pa, ra⟩ := ha.run W tk
  obtain ⟨Ca, f, fd, ps, h1, h2, h3, h4, h5⟩ := C.ex
  rw [← hK] at h3 h4
  have h5' : FnOk X.prog X.w X.K X.mg X.base (L2.CX X.prog X.w) k f fd ps (spI S.G c n F) := by rw [hK]; exact h5
  refine ⟨_, pe_makeS h3 h5' hr hg h1 h4 (fun σ => passAt tk σ) pa hdb he hpl, fun Z env σ H Q E Q' R hT k x => ?_⟩
  refine ra Z env σ H _ E _ R hT (fun Z1 env1 vs ds H1 R1 t1 hl r1 hh a dx na ndx ne => ?_) x
  have ha1 : a ∉ Z1.O := R1.free na
  have hh1 : Z1.h ≠ some a := fun z => ha1 (R1.hin a z)
  have sm : Same H1 (upd (upd H1 dx (.own a)) a (.ins Ca dx [])) := (same_upd ndx).trans (same_upd (by rw [upd_ne (Ne.symm ne)]; exact na))
  have R2 := R1.grow sm
  have vv : Same (vis Z1.O H1) (vis (a :: Z1.O) (upd (upd H1 dx (.own a)) a (.ins Ca dx []))) := fun b o eb => by
    obtain ⟨q1, q2⟩ := vis_some eb
    have nb : b ≠ a := fun z => by rw [z, na] at q2; cases q2
    exact vis_out (by rw [List.mem_cons, not_or]; exact ⟨nb, q1⟩) (sm b o q2) (vis_nt eb)
  refine ⟨a, Ca, dx, vs, Z1, ds, _, _, rfl, hl.trans hh.1, hh.1, h2, upd_same, hh1, ha1, R2.oin, R2.hnd, (RepL.of_all hl r1).mono vv fun _ h => h, R2.tabs, hh.2, fun d H' kp hd tt r q => ?_, fun er cls dd H' kp hd tt r q => ?_⟩
  · have kp1 : ∀ b o, H1 b = some o → Z1.h ≠ some b → Ex1 H' b o := fun b o eb en => kp b o (fun z => by rw [z, na] at eb; cases eb) (sm b o eb) en
    exact ⟨rfl, k Z1 env1 _ d H' (R1.step kp1 hd tt) (Tr.trans R1 t1 ⟨kp1, fun _ h => .inl h, fun _ h => h, fun _ h => .inl h, rfl⟩) r q⟩
  · have kp1 : ∀ b o, H1 b = some o → Z1.h ≠ some b → Ex1 H' b o := fun b o eb en => kp b o (sm b o eb) en
    have t : Tr Z1 H1 Z1 H' := ⟨kp1, fun _ h => .inl h, fun _ h => h, fun _ h => .inl h, rfl⟩
    exact x Z1 env1 cls dd er H' (R1.step kp1 hd tt) (Tr.trans R1 t1 t) r q⟩
end
abbrev pgOfC (K : PySem.W.Frag) (CL : List (Str × Addr)) (T : List (Addr × Str)) (L : List (Str × Addr)) (FL : List (Str × Addr) := []) : Pg := ⟨K, fun n => CL.lookup n, T, fun n => L.lookup n, fun n => FL.lookup n⟩
end DV

set_option Elab.async false
set_option linter.all false
set_option maxRecDepth 100000
namespace Law
open PySem PySem.Spec PyProof.Rows L2 DV
/-! the text by places -/
def top (i : Nat) : Stmt := PySem.Challenge.pw_checksigns_k05_whole_words_read_by_schem.main.body.getD i (.Pass ⟨0, 0, 0, 0⟩)
abbrev s__law_hand : Stmt := top 23
abbrev s_raw_state : Stmt := top 18
abbrev s_is_sized : Stmt := top 9
abbrev s_is_integer : Stmt := top 6
abbrev s_is_within : Stmt := top 7
abbrev s_are_below : Stmt := top 10
abbrev s_is_word : Stmt := top 11
abbrev s_check_word : Stmt := top 12
abbrev s_state_of : Stmt := top 19
abbrev s_is_tuple : Stmt := top 8
abbrev s_Scheme : Stmt := inClass (top 17) 0
abbrev s_is_good : Stmt := top 20
abbrev s__law_said : Stmt := top 30
abbrev s_read_on : Stmt := top 21
abbrev s__law_draw : Stmt := top 24
abbrev s__law_any : Stmt := top 25
abbrev s__law_state : Stmt := top 29
abbrev s__law_word : Stmt := top 26
abbrev s__law_rounds : Stmt := top 27
abbrev s__law_scheme : Stmt := top 28
abbrev s_law : Stmt := top 31
/-- what the module's names hold -/
structure Txt (mg : Str → Option Value) : Prop where
  b_ValueError : mg "ValueError" = none
  b_abs : mg "abs" = none
  b_all : mg "all" = none
  b_bool : mg "bool" = none
  b_enumerate : mg "enumerate" = none
  b_int : mg "int" = none
  b_isinstance : mg "isinstance" = none
  b_len : mg "len" = none
  b_list : mg "list" = none
  b_min : mg "min" = none
  b_range : mg "range" = none
  b_tuple : mg "tuple" = none
  c_MOST_LONG_checks : ∃ t, mg "MOST_LONG_checks" = some (.int 24 t)
  c_MOST_LONG_schemes : ∃ t, mg "MOST_LONG_schemes" = some (.int 24 t)
  c_MOST_SIGNS : ∃ t, mg "MOST_SIGNS" = some (.int 36 t)
  c_MOST_STATES : ∃ t, mg "MOST_STATES" = some (.int 200 t)
/-- what the error classes say -/
structure ErT (G : Pg) (mg : Str → Option Value) : Prop where
  cls : ErrCls G
  c_CheckError : CatchAll G mg "CheckError"
  k_NoWord : OwnCls G mg "NoWord" (["NoWord"] : List Str)
  kV : KitE G (.type "ValueError") fun _ => true
  nf_part : ∀ y C, G.ET y = some C → PySem.W.findIn G.K (.ref C) "part" = some none
section
variable {P : Program} {w : World} {G : Pg} {mg : Str → Option Value} {base : Heap} {f : Addr} {fd : FuncData}
/-! ### _law_hand -/
theorem sc__law_hand : FnScope ["script", "cells", "cell"] ["script"] (defScope s__law_hand) := ⟨rfl, rfl, rfl, by decide +kernel, rfl, by decide +kernel, by decide +kernel⟩
def B__law_hand_2 : Ts := (wRetF (wLst (wCons (wVal 1) (wCons (wC (.int 0)) (wCons (wC (.int 0)) (wCons (wOp gAdd (wC (.int 491)) (wOp gMul (wC (.int 367)) (wCB gLen (wCons (wLook 1) wNil)))) (wCons (wC (.int 0)) wNil)))))))
def B__law_hand : Ts := (wSeq (wAsg (wF (wLc (wiSq (wSlc (wLook 0) wNoP (wPart (wC (.int 63))))) (gN 2) wYes (wOp gMod (wCB gInt (wCons (wCB gAbs (wCons (wCB gInt (wCons (wLook 2) wNil)) wNil)) wNil)) (wOp gPow (wC (.int 10)) (wC (.int 36)))) [2])) (gN 1))
  B__law_hand_2)
theorem ok__law_hand (T : Txt mg) (hO : ∀ c C, G.CT c = some C → ObjCls G.K C) (OF : ∀ c C, G.CT c = some C → Cls G.K C ∧ ∀ f ∈ (["rounds", "signs", "states"] : List Str), NoAttr G.K C f) (F : Fun G.K "_law_hand" "_law_hand" s__law_hand f fd) (hB : ∀ (ns : List Int), ns.length ≤ 63 → ∀ Q : Post, (∀ (a : Addr) (cells : List Int) (seed : Int) (r : DV.Env), (∀ x ∈ cells, 0 ≤ x) → 0 ≤ seed → seed < 9223372036854775808 → Q.rf (.own a (handL cells 0 0 seed 0)) r) → B__law_hand (.val (.frz (ns.map D.int)) :: List.replicate (3 - 1) .no) Q) : FnOk P w G.K mg base (L2.CX P w) 1 f fd ["script"] (handSp G) := hand_fn F sc__law_hand rfl (by decide) (fun cdv A outer s H E S eS hr => by
  subst eS
  have nd := sc__law_hand.nd
  have hu65 : A.units + 3 + 65 < cLine := by have := hr.un; show _ < _; have e : (A.deeper (envOfC "_law_hand" (defScope s__law_hand) s.heap.objs.size f cdv)).units = A.units + 3 := rfl; omega
  exact (dss_cons (ds_valLc 1 rfl nd (di_sq mdB rfl (DB.of (dx_slc rfl (db_var 0) dp_none (dp_some (DB.of dx_int))))) (blkOk_by (own := [("cell", 2)]) (N := ["script", "cells", "cell"]) (sc := (defScope s__law_hand)) (by decide +kernel)) (fun _ _ _ _ _ => (dg_name 2 nd)) (fun _ _ _ _ _ => dif_nil) (fun _ _ _ _ _ => (dx_op (od_mod) (DB.of (dx_cty (cd_int) T.b_int (by decide +kernel) (da_cB (DB.of (dx_cb (cd_abs) T.b_abs (by decide +kernel) (da_cB (DB.of (dx_cty (cd_int) T.b_int (by decide +kernel) (da_cB (db_var 2) da_nil))) da_nil))) da_nil))) (DB.of (dx_op (od_pow) (DB.of dx_int) (DB.of dx_int))))) (sw_true rfl rfl rfl (by decide +kernel)))
  (dss_one (ds_retF (df_lst (da_cS (dx_var 1) (da_cS dx_int (da_cS dx_int (da_cS (dx_op (od_add rfl) (DB.of dx_int) (DB.of (dx_op (od_mul rfl) (DB.of dx_int) (DB.of (dx_cb (cd_len rfl) T.b_len (by decide +kernel) (da_cB (db_var 1) da_nil)))))) (da_cS dx_int da_nil)))))))))) hB
/-! ### raw_state -/
theorem sc_raw_state : FnScope ["scheme", "word", "state", "at", "sign"] ["scheme", "word"] (defScope s_raw_state) := ⟨rfl, rfl, rfl, by decide +kernel, rfl, by decide +kernel, by decide +kernel⟩
def B_raw_state_4 : Ts := (wRet (wVal 2))
def B_raw_state_2 : Ts := (wSeq (wFor (wiEn (wVal 1)) (gTup 2 (gCons (gN 3) (gCons (gN 4) gNil))) (wAsg (wOp gIx (wOp gIx (wOp gIx (wFld "rounds" (wLook 0)) (wOp gMod (wLook 3) (wCB gLen (wCons (wFld "rounds" (wLook 0)) wNil)))) (wLook 2)) (wLook 4)) (gN 2)))
  B_raw_state_4)
def B_raw_state : Ts := (wSeq (wAsg (wC (.int 0)) (gN 2))
  B_raw_state_2)
theorem T_raw_state_ex : ∃ T : Fn, T = wFn 5 B_raw_state := ⟨_, rfl⟩
noncomputable def T_raw_state : Fn := T_raw_state_ex.choose
theorem T_raw_state_eq : T_raw_state = wFn 5 B_raw_state := T_raw_state_ex.choose_spec
theorem ok_raw_state (T : Txt mg) (hO : ∀ c C, G.CT c = some C → ObjCls G.K C) (OF : ∀ c C, G.CT c = some C → Cls G.K C ∧ ∀ f ∈ (["rounds", "signs", "states"] : List Str), NoAttr G.K C f) (F : Fun G.K "raw_state" "raw_state" s_raw_state f fd) : FnOk P w G.K mg base (L2.CX P w) 1 f fd ["scheme", "word"] (spD G 2 T_raw_state) := by
  rw [T_raw_state_eq]
  exact fn_ok F sc_raw_state rfl (fun cdv A outer s H E S eS hr => by
      subst eS
      have nd := sc_raw_state.nd
      have hu65 : A.units + 3 + 65 < cLine := by have := hr.un; show _ < _; have e : (A.deeper (envOfC "raw_state" (defScope s_raw_state) s.heap.objs.size f cdv)).units = A.units + 3 := rfl; omega
      exact (dss_cons (ds_set 2 nd dx_int)
      (dss_cons (ds_for rfl (di_enL mdS rfl T.b_enumerate (dx_var 1)) (dg_tup rfl rfl (dgs_cons (dg_name 3 nd) (dgs_cons (dg_name 4 nd) dgs_nil))) (dss_one (ds_set 2 nd (dx_ix rfl (DB.of (dx_ix rfl (DB.of (dx_ix rfl (DB.of (dx_fld rfl (fun c C h => ⟨(OF c C h).1, (OF c C h).2 _ (.head _)⟩) (db_var 0))) (DB.of (dx_op (od_mod) (db_var 3) (DB.of (dx_cb (cd_len rfl) T.b_len (by decide +kernel) (da_cB (DB.of (dx_fld rfl (fun c C h => ⟨(OF c C h).1, (OF c C h).2 _ (.head _)⟩) (db_var 0))) da_nil))))))) (db_var 2))) (db_var 4)))))
      (dss_one (ds_ret (dx_var 2))))))
/-! ### is_sized -/
theorem sc_is_sized : FnScope ["thing", "least", "most"] ["thing", "least", "most"] (defScope s_is_sized) := ⟨rfl, rfl, rfl, by decide +kernel, rfl, by decide +kernel, by decide +kernel⟩
def B_is_sized : Ts := (wRet (wAndV (wIsT .tuple (wLook 0)) (wChain gLe gLe (wLook 1) (wCB gLen (wCons (wLook 0) wNil)) (wLook 2))))
theorem T_is_sized_ex : ∃ T : Fn, T = wFn 3 B_is_sized := ⟨_, rfl⟩
noncomputable def T_is_sized : Fn := T_is_sized_ex.choose
theorem T_is_sized_eq : T_is_sized = wFn 3 B_is_sized := T_is_sized_ex.choose_spec
theorem ok_is_sized (T : Txt mg) (hO : ∀ c C, G.CT c = some C → ObjCls G.K C) (OF : ∀ c C, G.CT c = some C → Cls G.K C ∧ ∀ f ∈ (["rounds", "signs", "states"] : List Str), NoAttr G.K C f) (F : Fun G.K "is_sized" "is_sized" s_is_sized f fd) : FnOk P w G.K mg base (L2.CX P w) 1 f fd ["thing", "least", "most"] (spD G 3 T_is_sized) := by
  rw [T_is_sized_eq]
  exact fn_ok F sc_is_sized rfl (fun cdv A outer s H E S eS hr => by
      subst eS
      have nd := sc_is_sized.nd
      have hu65 : A.units + 3 + 65 < cLine := by have := hr.un; show _ < _; have e : (A.deeper (envOfC "is_sized" (defScope s_is_sized) s.heap.objs.size f cdv)).units = A.units + 3 := rfl; omega
      exact (dss_one (ds_ret (dx_and (dx_isT .tuple rfl hO T.b_isinstance (by decide +kernel) (db_var 0) T.b_tuple (by decide +kernel)) (dx_one (dx_chain (od_le) (od_le) (db_var 1) (DB.of (dx_cb (cd_len rfl) T.b_len (by decide +kernel) (da_cB (db_var 0) da_nil))) (db_var 2)))))))
/-! ### is_integer -/
theorem sc_is_integer : FnScope ["thing"] ["thing"] (defScope s_is_integer) := ⟨rfl, rfl, rfl, by decide +kernel, rfl, by decide +kernel, by decide +kernel⟩
def B_is_integer : Ts := (wRet (wAndV (wIsT .int (wLook 0)) (wNotV (wIsT .bool (wLook 0)))))
theorem T_is_integer_ex : ∃ T : Fn, T = wFn 1 B_is_integer := ⟨_, rfl⟩
noncomputable def T_is_integer : Fn := T_is_integer_ex.choose
theorem T_is_integer_eq : T_is_integer = wFn 1 B_is_integer := T_is_integer_ex.choose_spec
theorem ok_is_integer (T : Txt mg) (hO : ∀ c C, G.CT c = some C → ObjCls G.K C) (OF : ∀ c C, G.CT c = some C → Cls G.K C ∧ ∀ f ∈ (["rounds", "signs", "states"] : List Str), NoAttr G.K C f) (F : Fun G.K "is_integer" "is_integer" s_is_integer f fd) : FnOk P w G.K mg base (L2.CX P w) 1 f fd ["thing"] (spD G 1 T_is_integer) := by
  rw [T_is_integer_eq]
  exact fn_ok F sc_is_integer rfl (fun cdv A outer s H E S eS hr => by
      subst eS
      have nd := sc_is_integer.nd
      have hu65 : A.units + 3 + 65 < cLine := by have := hr.un; show _ < _; have e : (A.deeper (envOfC "is_integer" (defScope s_is_integer) s.heap.objs.size f cdv)).units = A.units + 3 := rfl; omega
      exact (dss_one (ds_ret (dx_and (dx_isT .int rfl hO T.b_isinstance (by decide +kernel) (db_var 0) T.b_int (by decide +kernel)) (dx_one (dx_not (dx_isT .bool rfl hO T.b_isinstance (by decide +kernel) (db_var 0) T.b_bool (by decide +kernel))))))))
/-! ### is_within -/
theorem sc_is_within : FnScope ["thing", "least", "most"] ["thing", "least", "most"] (defScope s_is_within) := ⟨rfl, rfl, rfl, by decide +kernel, rfl, by decide +kernel, by decide +kernel⟩
def B_is_within : Ts := (wRet (wAndV (wCall 1 T_is_integer (wCons (wVal 0) wNil)) (wChain gLe gLe (wLook 1) (wLook 0) (wLook 2))))
theorem T_is_within_ex : ∃ T : Fn, T = wFn 3 B_is_within := ⟨_, rfl⟩
noncomputable def T_is_within : Fn := T_is_within_ex.choose
theorem T_is_within_eq : T_is_within = wFn 3 B_is_within := T_is_within_ex.choose_spec
theorem ok_is_within (T : Txt mg) (hO : ∀ c C, G.CT c = some C → ObjCls G.K C) (OF : ∀ c C, G.CT c = some C → Cls G.K C ∧ ∀ f ∈ (["rounds", "signs", "states"] : List Str), NoAttr G.K C f) (C_is_integer : Cal P w G mg base "is_integer" 1 1 T_is_integer) (F : Fun G.K "is_within" "is_within" s_is_within f fd) : FnOk P w G.K mg base (L2.CX P w) 2 f fd ["thing", "least", "most"] (spD G 3 T_is_within) := by
  rw [T_is_within_eq]
  exact fn_ok F sc_is_within rfl (fun cdv A outer s H E S eS hr => by
      subst eS
      have nd := sc_is_within.nd
      have hu65 : A.units + 3 + 65 < cLine := by have := hr.un; show _ < _; have e : (A.deeper (envOfC "is_within" (defScope s_is_within) s.heap.objs.size f cdv)).units = A.units + 3 := rfl; omega
      exact (dss_one (ds_ret (dx_and (dx_call C_is_integer rfl (hr.mono (by decide)) (da_cS (dx_var 0) da_nil)) (dx_one (dx_chain (od_le) (od_le) (db_var 1) (db_var 0) (db_var 2)))))))
/-! ### are_below -/
theorem sc_are_below : FnScope ["thing", "many", "one"] ["thing", "many"] (defScope s_are_below) := ⟨rfl, rfl, rfl, by decide +kernel, rfl, by decide +kernel, by decide +kernel⟩
def B_are_below : Ts := (wRet (wAndV (wIsT .tuple (wLook 0)) (wCB gAll (wCons (wF (wLc (wiSq (wLook 0)) (gN 2) wYes (wCall 3 T_is_within (wCons (wVal 2) (wCons (wC (.int 0)) (wCons (wOp gSub (wLook 1) (wC (.int 1))) wNil)))) [2])) wNil))))
theorem T_are_below_ex : ∃ T : Fn, T = wFn 3 B_are_below := ⟨_, rfl⟩
noncomputable def T_are_below : Fn := T_are_below_ex.choose
theorem T_are_below_eq : T_are_below = wFn 3 B_are_below := T_are_below_ex.choose_spec
theorem ok_are_below (T : Txt mg) (hO : ∀ c C, G.CT c = some C → ObjCls G.K C) (OF : ∀ c C, G.CT c = some C → Cls G.K C ∧ ∀ f ∈ (["rounds", "signs", "states"] : List Str), NoAttr G.K C f) (C_is_within : Cal P w G mg base "is_within" 2 3 T_is_within) (F : Fun G.K "are_below" "are_below" s_are_below f fd) : FnOk P w G.K mg base (L2.CX P w) 3 f fd ["thing", "many"] (spD G 2 T_are_below) := by
  rw [T_are_below_eq]
  exact fn_ok F sc_are_below rfl (fun cdv A outer s H E S eS hr => by
      subst eS
      have nd := sc_are_below.nd
      have hu65 : A.units + 3 + 65 < cLine := by have := hr.un; show _ < _; have e : (A.deeper (envOfC "are_below" (defScope s_are_below) s.heap.objs.size f cdv)).units = A.units + 3 := rfl; omega
      exact (dss_one (ds_ret (dx_and (dx_isT .tuple rfl hO T.b_isinstance (by decide +kernel) (db_var 0) T.b_tuple (by decide +kernel)) (dx_one (dx_cb (cd_all rfl) T.b_all (by decide +kernel) (da_cB (DB.of (dx_f (df_lc rfl nd (di_sq mdB rfl (db_var 0)) (blkOk_by (own := [("one", 2)]) (N := ["thing", "many", "one"]) (sc := (defScope s_are_below)) (by decide +kernel)) (fun _ _ _ _ _ => (dg_name 2 nd)) (fun _ _ _ _ _ => dif_nil) (fun _ _ _ _ _ => (dx_call C_is_within rfl (hr.mono (by decide)) (da_cS (dx_var 2) (da_cS dx_int (da_cS (dx_op (od_sub) (db_var 1) (DB.of dx_int)) da_nil)))))))) da_nil)))))))
/-! ### is_word -/
theorem sc_is_word : FnScope ["many", "thing"] ["many", "thing"] (defScope s_is_word) := ⟨rfl, rfl, rfl, by decide +kernel, rfl, by decide +kernel, by decide +kernel⟩
def B_is_word : Ts := (wRet (wAndV (wCall 3 T_is_sized (wCons (wVal 1) (wCons (wC (.int 0)) (wCons (wC (.int 24)) wNil)))) (wCall 2 T_are_below (wCons (wVal 1) (wCons (wVal 0) wNil)))))
theorem T_is_word_ex : ∃ T : Fn, T = wFn 2 B_is_word := ⟨_, rfl⟩
noncomputable def T_is_word : Fn := T_is_word_ex.choose
theorem T_is_word_eq : T_is_word = wFn 2 B_is_word := T_is_word_ex.choose_spec
theorem ok_is_word (T : Txt mg) (hO : ∀ c C, G.CT c = some C → ObjCls G.K C) (OF : ∀ c C, G.CT c = some C → Cls G.K C ∧ ∀ f ∈ (["rounds", "signs", "states"] : List Str), NoAttr G.K C f) (C_is_sized : Cal P w G mg base "is_sized" 1 3 T_is_sized) (C_are_below : Cal P w G mg base "are_below" 3 2 T_are_below) (F : Fun G.K "is_word" "is_word" s_is_word f fd) : FnOk P w G.K mg base (L2.CX P w) 4 f fd ["many", "thing"] (spD G 2 T_is_word) := by
  rw [T_is_word_eq]
  exact fn_ok F sc_is_word rfl (fun cdv A outer s H E S eS hr => by
      subst eS
      have nd := sc_is_word.nd
      have hu65 : A.units + 3 + 65 < cLine := by have := hr.un; show _ < _; have e : (A.deeper (envOfC "is_word" (defScope s_is_word) s.heap.objs.size f cdv)).units = A.units + 3 := rfl; omega
      exact (dss_one (ds_ret (dx_and (dx_call C_is_sized rfl (hr.mono (by decide)) (da_cS (dx_var 1) (da_cS dx_int (da_cS (dx_globI T.c_MOST_LONG_checks) da_nil)))) (dx_one (dx_call C_are_below rfl (hr.mono (by decide)) (da_cS (dx_var 1) (da_cS (dx_var 0) da_nil))))))))
/-! ### check_word -/
theorem sc_check_word : FnScope ["many", "thing"] ["many", "thing"] (defScope s_check_word) := ⟨rfl, rfl, rfl, by decide +kernel, rfl, by decide +kernel, by decide +kernel⟩
def B_check_word : Ts := (wIfS (wNot (wTst (wCall 2 T_is_word (wCons (wVal 0) (wCons (wVal 1) wNil))))) (wRaise0 "NoWord") wSkip)
theorem T_check_word_ex : ∃ T : Fn, T = wFn 2 B_check_word := ⟨_, rfl⟩
noncomputable def T_check_word : Fn := T_check_word_ex.choose
theorem T_check_word_eq : T_check_word = wFn 2 B_check_word := T_check_word_ex.choose_spec
theorem ok_check_word (T : Txt mg) (hO : ∀ c C, G.CT c = some C → ObjCls G.K C) (OF : ∀ c C, G.CT c = some C → Cls G.K C ∧ ∀ f ∈ (["rounds", "signs", "states"] : List Str), NoAttr G.K C f) (E_NoWord : ErC P w G mg base "NoWord" 1 (sp0 G.K)) (C_is_word : Cal P w G mg base "is_word" 4 2 T_is_word) (F : Fun G.K "check_word" "check_word" s_check_word f fd) : FnOk P w G.K mg base (L2.CX P w) 5 f fd ["many", "thing"] (spD G 2 T_check_word) := by
  rw [T_check_word_eq]
  exact fn_ok F sc_check_word rfl (fun cdv A outer s H E S eS hr => by
      subst eS
      have nd := sc_check_word.nd
      have hu65 : A.units + 3 + 65 < cLine := by have := hr.un; show _ < _; have e : (A.deeper (envOfC "check_word" (defScope s_check_word) s.heap.objs.size f cdv)).units = A.units + 3 := rfl; omega
      exact (dss_one (ds_if (dt_not (dt_val (dx_call C_is_word rfl (hr.mono (by decide)) (da_cS (dx_var 0) (da_cS (dx_var 1) da_nil))))) (dss_one (ds_raise0 rfl rfl E_NoWord (hr.mono (by decide)))) dss_nil)))
/-! ### state_of -/
theorem sc_state_of : FnScope ["scheme", "word"] ["scheme", "word"] (defScope s_state_of) := ⟨rfl, rfl, rfl, by decide +kernel, rfl, by decide +kernel, by decide +kernel⟩
def B_state_of_2 : Ts := (wRet (wCall 2 T_raw_state (wCons (wVal 0) (wCons (wVal 1) wNil))))
def B_state_of : Ts := (wSeq (wDrop (wCall 2 T_check_word (wCons (wFld "signs" (wLook 0)) (wCons (wVal 1) wNil))))
  B_state_of_2)
theorem T_state_of_ex : ∃ T : Fn, T = wFn 2 B_state_of := ⟨_, rfl⟩
noncomputable def T_state_of : Fn := T_state_of_ex.choose
theorem T_state_of_eq : T_state_of = wFn 2 B_state_of := T_state_of_ex.choose_spec
theorem ok_state_of (T : Txt mg) (hO : ∀ c C, G.CT c = some C → ObjCls G.K C) (OF : ∀ c C, G.CT c = some C → Cls G.K C ∧ ∀ f ∈ (["rounds", "signs", "states"] : List Str), NoAttr G.K C f) (C_raw_state : Cal P w G mg base "raw_state" 1 2 T_raw_state) (C_check_word : Cal P w G mg base "check_word" 5 2 T_check_word) (F : Fun G.K "state_of" "state_of" s_state_of f fd) : FnOk P w G.K mg base (L2.CX P w) 6 f fd ["scheme", "word"] (spD G 2 T_state_of) := by
  rw [T_state_of_eq]
  exact fn_ok F sc_state_of rfl (fun cdv A outer s H E S eS hr => by
      subst eS
      have nd := sc_state_of.nd
      have hu65 : A.units + 3 + 65 < cLine := by have := hr.un; show _ < _; have e : (A.deeper (envOfC "state_of" (defScope s_state_of) s.heap.objs.size f cdv)).units = A.units + 3 := rfl; omega
      exact (dss_cons (ds_expr (dx_call C_check_word rfl (hr.mono (by decide)) (da_cS (dx_fld rfl (fun c C h => ⟨(OF c C h).1, (OF c C h).2 _ (.tail _ (.head _))⟩) (db_var 0)) (da_cS (dx_var 1) da_nil))))
      (dss_one (ds_ret (dx_call C_raw_state rfl (hr.mono (by decide)) (da_cS (dx_var 0) (da_cS (dx_var 1) da_nil)))))))
/-! ### is_tuple -/
theorem sc_is_tuple : FnScope ["thing", "size"] ["thing", "size"] (defScope s_is_tuple) := ⟨rfl, rfl, rfl, by decide +kernel, rfl, by decide +kernel, by decide +kernel⟩
def B_is_tuple : Ts := (wRet (wAndV (wIsT .tuple (wLook 0)) (wOp gEq (wCB gLen (wCons (wLook 0) wNil)) (wLook 1))))
theorem T_is_tuple_ex : ∃ T : Fn, T = wFn 2 B_is_tuple := ⟨_, rfl⟩
noncomputable def T_is_tuple : Fn := T_is_tuple_ex.choose
theorem T_is_tuple_eq : T_is_tuple = wFn 2 B_is_tuple := T_is_tuple_ex.choose_spec
theorem ok_is_tuple (T : Txt mg) (hO : ∀ c C, G.CT c = some C → ObjCls G.K C) (OF : ∀ c C, G.CT c = some C → Cls G.K C ∧ ∀ f ∈ (["rounds", "signs", "states"] : List Str), NoAttr G.K C f) (F : Fun G.K "is_tuple" "is_tuple" s_is_tuple f fd) : FnOk P w G.K mg base (L2.CX P w) 1 f fd ["thing", "size"] (spD G 2 T_is_tuple) := by
  rw [T_is_tuple_eq]
  exact fn_ok F sc_is_tuple rfl (fun cdv A outer s H E S eS hr => by
      subst eS
      have nd := sc_is_tuple.nd
      have hu65 : A.units + 3 + 65 < cLine := by have := hr.un; show _ < _; have e : (A.deeper (envOfC "is_tuple" (defScope s_is_tuple) s.heap.objs.size f cdv)).units = A.units + 3 := rfl; omega
      exact (dss_one (ds_ret (dx_and (dx_isT .tuple rfl hO T.b_isinstance (by decide +kernel) (db_var 0) T.b_tuple (by decide +kernel)) (dx_one (dx_cmp (od_eq rfl hr.units) (DB.of (dx_cb (cd_len rfl) T.b_len (by decide +kernel) (da_cB (db_var 0) da_nil))) (db_var 1) (by first | exact nomark _ | rfl)))))))
/-! ### Scheme -/
theorem sc_Scheme : FnScope ["self", "signs", "states", "rounds", "table", "row"] ["self", "signs", "states", "rounds"] (defScope s_Scheme) := ⟨rfl, rfl, rfl, by decide +kernel, rfl, by decide +kernel, by decide +kernel⟩
def B_Scheme_8 : Ts := (wIfS (wNot (wTst (wCB gAll (wCons (wF (wLc (wiSq (wLook 4)) (gN 5) wYes (wAndV (wCall 2 T_is_tuple (wCons (wVal 5) (wCons (wVal 1) wNil))) (wCall 2 T_are_below (wCons (wVal 5) (wCons (wVal 2) wNil)))) [5])) wNil)))) (wRaise1 "BadScheme" "part" (wC (.str "rounds"))) wSkip)
def B_Scheme_1005 : Ts := (wSeq (wFor (wiSq (wVal 3)) (gN 4) B_Scheme_8)
  wSkip)
def B_Scheme_1003 : Ts := (wSeq (wIfS (wOr (wNot (wTst (wCall 3 T_is_sized (wCons (wVal 3) (wCons (wC (.int 1)) (wCons (wC (.int 24)) wNil)))))) (wNot (wTst (wCB gAll (wCons (wF (wLc (wiSq (wLook 3)) (gN 4) wYes (wCall 2 T_is_tuple (wCons (wVal 4) (wCons (wVal 2) wNil))) [4])) wNil))))) (wRaise1 "BadScheme" "part" (wC (.str "rounds"))) wSkip)
  B_Scheme_1005)
def B_Scheme_1001 : Ts := (wSeq (wIfS (wNot (wTst (wCall 3 T_is_within (wCons (wVal 2) (wCons (wC (.int 1)) (wCons (wC (.int 200)) wNil)))))) (wRaise1 "BadScheme" "part" (wC (.str "states"))) wSkip)
  B_Scheme_1003)
def B_Scheme : Ts := (wSeq (wIfS (wNot (wTst (wCall 3 T_is_within (wCons (wVal 1) (wCons (wC (.int 2)) (wCons (wC (.int 36)) wNil)))))) (wRaise1 "BadScheme" "part" (wC (.str "signs"))) wSkip)
  B_Scheme_1001)
theorem T_Scheme_ex : ∃ T : Fn, T = wInit "Scheme" [("signs", 1), ("states", 2), ("rounds", 3)] 6 B_Scheme := ⟨_, rfl⟩
noncomputable def T_Scheme : Fn := T_Scheme_ex.choose
theorem T_Scheme_eq : T_Scheme = wInit "Scheme" [("signs", 1), ("states", 2), ("rounds", 3)] 6 B_Scheme := T_Scheme_ex.choose_spec
theorem ok_Scheme (T : Txt mg) (hO : ∀ c C, G.CT c = some C → ObjCls G.K C) (OF : ∀ c C, G.CT c = some C → Cls G.K C ∧ ∀ f ∈ (["rounds", "signs", "states"] : List Str), NoAttr G.K C f) (E_BadScheme : ErC P w G mg base "BadScheme" 2 (sp1 G.K "part")) (N_BadScheme : ∀ C, G.ET "BadScheme" = some C → PySem.W.findIn G.K (.ref C) "part" = some none) (C_is_tuple : Cal P w G mg base "is_tuple" 1 2 T_is_tuple) (C_are_below : Cal P w G mg base "are_below" 3 2 T_are_below) (C_is_sized : Cal P w G mg base "is_sized" 1 3 T_is_sized) (C_is_within : Cal P w G mg base "is_within" 2 3 T_is_within) {C : Addr} (hC : G.CT "Scheme" = some C) (F : Fun G.K "__init__" "Scheme.__init__" s_Scheme f fd) : FnOk P w G.K mg base (L2.CX P w) 4 f fd ["self", "signs", "states", "rounds"] (spI G "Scheme" 3 T_Scheme) := by
  rw [T_Scheme_eq]
  exact init_ok F sc_Scheme rfl (by decide) hC (OF _ _ hC).1 (List.forall_mem_cons.2 ⟨(OF _ _ hC).2 _ (.tail _ (.head _)), (List.forall_mem_cons.2 ⟨(OF _ _ hC).2 _ (.tail _ (.tail _ (.head _))), (List.forall_mem_cons.2 ⟨(OF _ _ hC).2 _ (.head _), (fun _ h => nomatch h)⟩)⟩)⟩) (by decide) (by decide) (fun cdv A outer s H E S eS hr => by
      subst eS
      have nd := sc_Scheme.nd
      have hu65 : A.units + 3 + 65 < cLine := by have := hr.un; show _ < _; have e : (A.deeper (envOfC "Scheme.__init__" (defScope s_Scheme) s.heap.objs.size f cdv)).units = A.units + 3 := rfl; omega
      refine dst_cons ?_ ?_
      · exact (ds_if (dt_not (dt_val (dx_call C_is_within rfl (hr.mono (by decide)) (da_cS (dx_var 1) (da_cS dx_int (da_cS (dx_globI T.c_MOST_SIGNS) da_nil)))))) (dss_one (ds_raise1 rfl rfl E_BadScheme N_BadScheme (hr.mono (by decide)) dx_str)) dss_nil)
      refine dst_cons ?_ ?_
      · exact (ds_if (dt_not (dt_val (dx_call C_is_within rfl (hr.mono (by decide)) (da_cS (dx_var 2) (da_cS dx_int (da_cS (dx_globI T.c_MOST_STATES) da_nil)))))) (dss_one (ds_raise1 rfl rfl E_BadScheme N_BadScheme (hr.mono (by decide)) dx_str)) dss_nil)
      refine dst_cons ?_ ?_
      · exact (ds_if (DW.dt (dw_or (dt_not (dt_val (dx_call C_is_sized rfl (hr.mono (by decide)) (da_cS (dx_var 3) (da_cS dx_int (da_cS (dx_globI T.c_MOST_LONG_schemes) da_nil)))))) (dw_or1 (dt_not (dt_val (dx_cb (cd_all rfl) T.b_all (by decide +kernel) (da_cB (DB.of (dx_f (df_lc rfl nd (di_sq mdB rfl (db_var 3)) (blkOk_by (own := [("table", 4)]) (N := ["self", "signs", "states", "rounds", "table", "row"]) (sc := (defScope s_Scheme)) (by decide +kernel)) (fun _ _ _ _ _ => (dg_name 4 nd)) (fun _ _ _ _ _ => dif_nil) (fun _ _ _ _ _ => (dx_call C_is_tuple rfl (hr.mono (by decide)) (da_cS (dx_var 4) (da_cS (dx_var 2) da_nil))))))) da_nil))))))) (dss_one (ds_raise1 rfl rfl E_BadScheme N_BadScheme (hr.mono (by decide)) dx_str)) dss_nil)
      refine dst_cons ?_ ?_
      · exact (ds_for rfl (di_sq mdS rfl (dx_var 3)) (dg_name 4 nd) (dss_one (ds_if (dt_not (dt_val (dx_cb (cd_all rfl) T.b_all (by decide +kernel) (da_cB (DB.of (dx_f (df_lc rfl nd (di_sq mdB rfl (db_var 4)) (blkOk_by (own := [("row", 5)]) (N := ["self", "signs", "states", "rounds", "table", "row"]) (sc := (defScope s_Scheme)) (by decide +kernel)) (fun _ _ _ _ _ => (dg_name 5 nd)) (fun _ _ _ _ _ => dif_nil) (fun _ _ _ _ _ => (dx_and (dx_call C_is_tuple rfl (hr.mono (by decide)) (da_cS (dx_var 5) (da_cS (dx_var 1) da_nil))) (dx_one (dx_call C_are_below rfl (hr.mono (by decide)) (da_cS (dx_var 5) (da_cS (dx_var 2) da_nil))))))))) da_nil)))) (dss_one (ds_raise1 rfl rfl E_BadScheme N_BadScheme (hr.mono (by decide)) dx_str)) dss_nil)))
      exact dst_nil (pss_cons (ps_fld (pv 0) (pv 1) rfl) (pss_cons (ps_fld (pv 0) (pv 2) rfl) (pss_cons (ps_fld (pv 0) (pv 3) rfl) pss_nil))))
/-! ### is_good -/
theorem sc_is_good : FnScope ["scheme", "thing"] ["scheme", "thing"] (defScope s_is_good) := ⟨rfl, rfl, rfl, by decide +kernel, rfl, by decide +kernel, by decide +kernel⟩
def B_is_good_3 : Ts := (wRet (wOp gEq (wCall 2 T_raw_state (wCons (wVal 0) (wCons (wVal 1) wNil))) (wC (.int 0))))
def B_is_good : Ts := (wSeq (wIfS (wOr (wNot (wTst (wCall 3 T_is_sized (wCons (wVal 1) (wCons (wC (.int 0)) (wCons (wC (.int 24)) wNil)))))) (wNot (wTst (wCall 2 T_are_below (wCons (wVal 1) (wCons (wFld "signs" (wLook 0)) wNil)))))) (wRet (wC (.bl false))) wSkip)
  B_is_good_3)
theorem T_is_good_ex : ∃ T : Fn, T = wFn 2 B_is_good := ⟨_, rfl⟩
noncomputable def T_is_good : Fn := T_is_good_ex.choose
theorem T_is_good_eq : T_is_good = wFn 2 B_is_good := T_is_good_ex.choose_spec
theorem ok_is_good (T : Txt mg) (hO : ∀ c C, G.CT c = some C → ObjCls G.K C) (OF : ∀ c C, G.CT c = some C → Cls G.K C ∧ ∀ f ∈ (["rounds", "signs", "states"] : List Str), NoAttr G.K C f) (C_raw_state : Cal P w G mg base "raw_state" 1 2 T_raw_state) (C_is_sized : Cal P w G mg base "is_sized" 1 3 T_is_sized) (C_are_below : Cal P w G mg base "are_below" 3 2 T_are_below) (F : Fun G.K "is_good" "is_good" s_is_good f fd) : FnOk P w G.K mg base (L2.CX P w) 4 f fd ["scheme", "thing"] (spD G 2 T_is_good) := by
  rw [T_is_good_eq]
  exact fn_ok F sc_is_good rfl (fun cdv A outer s H E S eS hr => by
      subst eS
      have nd := sc_is_good.nd
      have hu65 : A.units + 3 + 65 < cLine := by have := hr.un; show _ < _; have e : (A.deeper (envOfC "is_good" (defScope s_is_good) s.heap.objs.size f cdv)).units = A.units + 3 := rfl; omega
      exact (dss_cons (ds_if (DW.dt (dw_or (dt_not (dt_val (dx_call C_is_sized rfl (hr.mono (by decide)) (da_cS (dx_var 1) (da_cS dx_int (da_cS (dx_globI T.c_MOST_LONG_schemes) da_nil)))))) (dw_or1 (dt_not (dt_val (dx_call C_are_below rfl (hr.mono (by decide)) (da_cS (dx_var 1) (da_cS (dx_fld rfl (fun c C h => ⟨(OF c C h).1, (OF c C h).2 _ (.tail _ (.head _))⟩) (db_var 0)) da_nil)))))))) (dss_one (ds_ret dx_bl)) dss_nil)
      (dss_one (ds_ret (dx_cmp (od_eq rfl hr.units) (DB.of (dx_call C_raw_state rfl (hr.mono (by decide)) (da_cS (dx_var 0) (da_cS (dx_var 1) da_nil)))) (DB.of dx_int) (by first | exact nomark _ | rfl))))))
/-! ### _law_said -/
theorem sc__law_said : FnScope ["call", "error", "some"] ["call"] (defScope s__law_said) := ⟨rfl, rfl, rfl, by decide +kernel, rfl, by decide +kernel, by decide +kernel⟩
def B__law_said_8 (f : Addr) (tD : Tl) : Ts := (wRet (wC (.str "let")))
def B__law_said_7 (a : Addr) (dd : Option Addr) (er : Er) : Ts := (wRet (wOp gIx (wF (wLst (wCons (wC (.str "word")) wNil))) (wLM gIdx (wLook 2) (wC (.bl true)))))
def B__law_said_5 (a : Addr) (dd : Option Addr) (er : Er) : Ts := (wSeq (wIfS (wOr (wTst (wOp gNe (wLM gCnt (wLook 2) (wC (.bl true))) (wC (.int 1)))) (wNot (wTst (wIsE 1 a dd er fun _ => true)))) (wRet (wC (.str "odd"))) wSkip)
  (B__law_said_7 a dd er))
def B__law_said_4 (a : Addr) (dd : Option Addr) (er : Er) : Ts := (wSeq (wAsg (wF (wLst (wCons (wIsE 1 a dd er fun n => (["NoWord"] : List Str).contains n) wNil))) (gN 2))
  (B__law_said_5 a dd er))
def B__law_said (f : Addr) (tD : Tl) : Ts := (wSeq (wTry 1 (wDrop (wAct f tD)) (fun a dd er => (B__law_said_4 a dd er)))
  (B__law_said_8 f tD))
theorem F__law_said_ex : ∃ T : Fl, T = wFl 3 B__law_said := ⟨_, rfl⟩
noncomputable def F__law_said : Fl := F__law_said_ex.choose
theorem F__law_said_eq : F__law_said = wFl 3 B__law_said := F__law_said_ex.choose_spec
theorem lam__law_said (T : Txt mg) (hO : ∀ c C, G.CT c = some C → ObjCls G.K C) (OF : ∀ c C, G.CT c = some C → Cls G.K C ∧ ∀ f ∈ (["rounds", "signs", "states"] : List Str), NoAttr G.K C f) (X : ErT G mg) (F : Fun G.K "_law_said" "_law_said" s__law_said f fd) (mf : mg "_law_said" = some (.ref f)) (bf : L2.Binds G.K fd ["call"] []) : LamF P w G mg base "_law_said" F__law_said := by
  rw [F__law_said_eq]
  exact lamF_of F sc__law_said (by decide) mf bf (fun A stk cdv S2 tD f s H hr eG act => by
    subst eG
    have nd := sc__law_said.nd
    exact (dss_cons (ds_tryE 1 rfl rfl nd rfl X.c_CheckError (fun _ _ => (dss_one (ds_expr (act _ _ _ _)))) (fun a oe C dd pn er hz hf hD => (dss_cons (ds_set 2 nd (dx_f (df_lst (da_cS (dx_isEo 1 rfl X.cls hz hf hD X.k_NoWord T.b_isinstance) da_nil))))
      (dss_cons (ds_if (DW.dt (dw_or (dt_cmp (od_ne rfl hr.units) (DB.of (dx_cnt rfl (db_var 2) (DB.of dx_bl))) (DB.of dx_int) (by first | exact nomark _ | rfl)) (dw_or1 (dt_not (dt_val (dx_isEb 1 rfl X.cls hz hf hD X.kV T.b_isinstance T.b_ValueError (by decide +kernel))))))) (dss_one (ds_ret dx_str)) dss_nil)
      (dss_one (ds_ret (dx_ix rfl (DB.of (dx_f (df_lst (da_cS dx_str da_nil)))) (DB.of (dx_idx rfl (db_var 2) (DB.of dx_bl))))))))))
      (dss_one (ds_ret dx_str))))
/-! ### read_on -/
theorem sc_read_on : FnScope ["scheme", "word", "many"] ["scheme", "word"] (defScope s_read_on) := ⟨rfl, rfl, rfl, by decide +kernel, rfl, by decide +kernel, by decide +kernel⟩
def B_read_on_2 : Ts := (wRet (wCB gTuple (wCons (wF (wLc (wiR1 (wOp gAdd (wCB gLen (wCons (wLook 1) wNil)) (wC (.int 1)))) (gN 2) wYes (wCall 2 T_raw_state (wCons (wVal 0) (wCons (wSlc (wLook 1) wNoP (wPart (wLook 2))) wNil))) [2])) wNil)))
def B_read_on : Ts := (wSeq (wDrop (wCall 2 T_check_word (wCons (wFld "signs" (wLook 0)) (wCons (wVal 1) wNil))))
  B_read_on_2)
theorem T_read_on_ex : ∃ T : Fn, T = wFn 3 B_read_on := ⟨_, rfl⟩
noncomputable def T_read_on : Fn := T_read_on_ex.choose
theorem T_read_on_eq : T_read_on = wFn 3 B_read_on := T_read_on_ex.choose_spec
theorem ok_read_on (T : Txt mg) (hO : ∀ c C, G.CT c = some C → ObjCls G.K C) (OF : ∀ c C, G.CT c = some C → Cls G.K C ∧ ∀ f ∈ (["rounds", "signs", "states"] : List Str), NoAttr G.K C f) (C_raw_state : Cal P w G mg base "raw_state" 1 2 T_raw_state) (C_check_word : Cal P w G mg base "check_word" 5 2 T_check_word) (F : Fun G.K "read_on" "read_on" s_read_on f fd) : FnOk P w G.K mg base (L2.CX P w) 6 f fd ["scheme", "word"] (spD G 2 T_read_on) := by
  rw [T_read_on_eq]
  exact fn_ok F sc_read_on rfl (fun cdv A outer s H E S eS hr => by
      subst eS
      have nd := sc_read_on.nd
      have hu65 : A.units + 3 + 65 < cLine := by have := hr.un; show _ < _; have e : (A.deeper (envOfC "read_on" (defScope s_read_on) s.heap.objs.size f cdv)).units = A.units + 3 := rfl; omega
      exact (dss_cons (ds_expr (dx_call C_check_word rfl (hr.mono (by decide)) (da_cS (dx_fld rfl (fun c C h => ⟨(OF c C h).1, (OF c C h).2 _ (.tail _ (.head _))⟩) (db_var 0)) (da_cS (dx_var 1) da_nil))))
      (dss_one (ds_ret (dx_cty (cd_tuple rfl) T.b_tuple (by decide +kernel) (da_cB (DB.of (dx_f (df_lc rfl nd (di_r1 T.b_range (DB.of (dx_op (od_add rfl) (DB.of (dx_cb (cd_len rfl) T.b_len (by decide +kernel) (da_cB (db_var 1) da_nil))) (DB.of dx_int)))) (blkOk_by (own := [("many", 2)]) (N := ["scheme", "word", "many"]) (sc := (defScope s_read_on)) (by decide +kernel)) (fun _ _ _ _ _ => (dg_name 2 nd)) (fun _ _ _ _ _ => dif_nil) (fun _ _ _ _ _ => (dx_call C_raw_state rfl (hr.mono (by decide)) (da_cS (dx_var 0) (da_cS (dx_slc rfl (db_var 1) dp_none (dp_some (db_var 2))) da_nil))))))) da_nil))))))
/-! ### _law_draw -/
theorem sc__law_draw : FnScope ["hand", "many", "cell", "digit", "number"] ["hand", "many"] (defScope s__law_draw) := ⟨rfl, rfl, rfl, by decide +kernel, rfl, by decide +kernel, by decide +kernel⟩
def B__law_draw_15 : Ts := (wRet (wOp gMod (wCB gInt (wCons (wOp gDiv (wLook 4) (wC (.int 16))) wNil)) (wLook 1)))
def B__law_draw_14 : Ts := (wSeq (wAsg (wOp gMod (wCB gInt (wCons (wOp gMul (wLook 4) (wOp gAdd (wOp gDiv (wLook 4) (wC (.int 2003))) (wC (.int 40014)))) wNil)) (wC (.int 2147483563))) (gN 4))
  B__law_draw_15)
def B__law_draw_13 : Ts := (wSeq (wAsg (wOp gMod (wCB gInt (wCons (wOp gMul (wLook 4) (wOp gAdd (wOp gDiv (wLook 4) (wC (.int 1009))) (wC (.int 69621)))) wNil)) (wC (.int 2147483647))) (gN 4))
  B__law_draw_14)
def B__law_draw_12 : Ts := (wSeq (wAsg (wOp gMod (wCB gInt (wCons (wOp gMul (wCB gInt (wCons (wOp gAdd (wOp gIx (wLook 0) (wC (.int 3))) (wOp gMul (wC (.int 7919)) (wOp gIx (wLook 0) (wC (.int 4))))) wNil)) (wC (.int 40692))) wNil)) (wC (.int 2147483647))) (gN 4))
  B__law_draw_13)
def B__law_draw_11 : Ts := (wSeq (wSetIx 0 (wOp gAdd (wOp gIx (wLook 0) (wC (.int 4))) (wC (.int 1))) (wC (.int 4)))
  B__law_draw_12)
def B__law_draw_10 : Ts := (wRet (wVal 3))
def B__law_draw_9 : Ts := (wSeq (wSetIx 0 (wOp gDiv (wOp gIx (wLook 0) (wC (.int 2))) (wLook 1)) (wC (.int 2)))
  B__law_draw_10)
def B__law_draw_8 : Ts := (wSeq (wAsg (wOp gMod (wCB gInt (wCons (wOp gIx (wLook 0) (wC (.int 2))) wNil)) (wLook 1)) (gN 3))
  B__law_draw_9)
def B__law_draw_7 : Ts := (wSeq (wIfS (wTst (wOp gGt (wOp gIx (wLook 0) (wC (.int 2))) (wC (.int 0)))) B__law_draw_8 wSkip)
  B__law_draw_11)
def B__law_draw_5 : Ts := (wIfS (wTst (wOp gGe (wLook 2) (wOp gPow (wC (.int 10)) (wC (.int 18))))) (wSetIx 0 (wVal 2) (wC (.int 2))) wSkip)
def B__law_draw_4 : Ts := (wSeq (wSetIx 0 (wOp gMod (wCB gInt (wCons (wOp gAdd (wOp gAdd (wOp gMul (wOp gIx (wLook 0) (wC (.int 3))) (wC (.int 69621))) (wOp gMul (wLook 2) (wC (.int 48271)))) (wC (.int 17))) wNil)) (wC (.int 2147483629))) (wC (.int 3)))
  B__law_draw_5)
def B__law_draw_3 : Ts := (wSeq (wSetIx 0 (wOp gAdd (wOp gIx (wLook 0) (wC (.int 1))) (wC (.int 1))) (wC (.int 1)))
  B__law_draw_4)
def B__law_draw_2 : Ts := (wSeq (wAsg (wOp gIx (wOp gIx (wLook 0) (wC (.int 0))) (wOp gIx (wLook 0) (wC (.int 1)))) (gN 2))
  B__law_draw_3)
def B__law_draw : Ts := (wSeq (wIfS (wAnd (wTst (wOp gEq (wOp gIx (wLook 0) (wC (.int 2))) (wC (.int 0)))) (wTst (wOp gLt (wOp gIx (wLook 0) (wC (.int 1))) (wCB gLen (wCons (wOp gIx (wLook 0) (wC (.int 0))) wNil))))) B__law_draw_2 wSkip)
  B__law_draw_7)
theorem ok__law_draw (T : Txt mg) (hO : ∀ c C, G.CT c = some C → ObjCls G.K C) (OF : ∀ c C, G.CT c = some C → Cls G.K C ∧ ∀ f ∈ (["rounds", "signs", "states"] : List Str), NoAttr G.K C f) (F : Fun G.K "_law_draw" "_law_draw" s__law_draw f fd) (hB : ∀ (h : Addr) (cells : List Int) (p : Nat) (big st cnt m : Int), (∀ x ∈ cells, 0 ≤ x) → 0 ≤ big → 0 ≤ st → 0 ≤ cnt → st < 9223372036854775808 → 0 < m → m < 1180591620717411303424 → ∀ Q : Post, (∀ (k : Int) (p' : Nat) (big' st' cnt' : Int) (r : DV.Env), 0 ≤ k → k < m → 0 ≤ big' → 0 ≤ st' → 0 ≤ cnt' → st' < 9223372036854775808 → Q.rt (.int k) (.own h (handL cells p' big' st' cnt') :: r)) → B__law_draw (.own h (handL cells p big st cnt) :: .val (.int m) :: List.replicate (5 - 2) .no) Q) : FnOk P w G.K mg base (L2.CX P w) 1 f fd ["hand", "many"] (spD G 2 wDraw) := draw_fn F sc__law_draw rfl (by decide) (fun cdv A outer s H E S eS hr => by
  subst eS
  have nd := sc__law_draw.nd
  have hu65 : A.units + 3 + 65 < cLine := by have := hr.un; show _ < _; have e : (A.deeper (envOfC "_law_draw" (defScope s__law_draw) s.heap.objs.size f cdv)).units = A.units + 3 := rfl; omega
  exact (dss_cons (ds_if (DW.dt (dw_and (dt_cmp (od_eq rfl hr.units) (DB.of (dx_ix rfl (db_var 0) (DB.of dx_int))) (DB.of dx_int) (by first | exact nomark _ | rfl)) (dw_and1 (dt_cmp (od_lt) (DB.of (dx_ix rfl (db_var 0) (DB.of dx_int))) (DB.of (dx_cb (cd_len rfl) T.b_len (by decide +kernel) (da_cB (DB.of (dx_ix rfl (db_var 0) (DB.of dx_int))) da_nil))) (by first | exact nomark _ | rfl))))) (dss_cons (ds_set 2 nd (dx_ix rfl (DB.of (dx_ix rfl (db_var 0) (DB.of dx_int))) (DB.of (dx_ix rfl (db_var 0) (DB.of dx_int)))))
  (dss_cons (ds_setix 0 (dx_op (od_add rfl) (DB.of (dx_ix rfl (db_var 0) (DB.of dx_int))) (DB.of dx_int)) (DB.of dx_int))
  (dss_cons (ds_setix 0 (dx_op (od_mod) (DB.of (dx_cty (cd_int) T.b_int (by decide +kernel) (da_cB (DB.of (dx_op (od_add rfl) (DB.of (dx_op (od_add rfl) (DB.of (dx_op (od_mul rfl) (DB.of (dx_ix rfl (db_var 0) (DB.of dx_int))) (DB.of dx_int))) (DB.of (dx_op (od_mul rfl) (db_var 2) (DB.of dx_int))))) (DB.of dx_int))) da_nil))) (DB.of dx_int)) (DB.of dx_int))
  (dss_one (ds_if (dt_cmp (od_ge) (db_var 2) (DB.of (dx_op (od_pow) (DB.of dx_int) (DB.of dx_int))) (by first | exact nomark _ | rfl)) (dss_one (ds_setix 0 (dx_var 2) (DB.of dx_int))) dss_nil))))) dss_nil)
  (dss_cons (ds_if (dt_cmp (od_gt) (DB.of (dx_ix rfl (db_var 0) (DB.of dx_int))) (DB.of dx_int) (by first | exact nomark _ | rfl)) (dss_cons (ds_set 3 nd (dx_op (od_mod) (DB.of (dx_cty (cd_int) T.b_int (by decide +kernel) (da_cB (DB.of (dx_ix rfl (db_var 0) (DB.of dx_int))) da_nil))) (db_var 1)))
  (dss_cons (ds_setix 0 (dx_op (od_div) (DB.of (dx_ix rfl (db_var 0) (DB.of dx_int))) (db_var 1)) (DB.of dx_int))
  (dss_one (ds_ret (dx_var 3))))) dss_nil)
  (dss_cons (ds_setix 0 (dx_op (od_add rfl) (DB.of (dx_ix rfl (db_var 0) (DB.of dx_int))) (DB.of dx_int)) (DB.of dx_int))
  (dss_cons (ds_set 4 nd (dx_op (od_mod) (DB.of (dx_cty (cd_int) T.b_int (by decide +kernel) (da_cB (DB.of (dx_op (od_mul rfl) (DB.of (dx_cty (cd_int) T.b_int (by decide +kernel) (da_cB (DB.of (dx_op (od_add rfl) (DB.of (dx_ix rfl (db_var 0) (DB.of dx_int))) (DB.of (dx_op (od_mul rfl) (DB.of dx_int) (DB.of (dx_ix rfl (db_var 0) (DB.of dx_int))))))) da_nil))) (DB.of dx_int))) da_nil))) (DB.of dx_int)))
  (dss_cons (ds_set 4 nd (dx_op (od_mod) (DB.of (dx_cty (cd_int) T.b_int (by decide +kernel) (da_cB (DB.of (dx_op (od_mul rfl) (db_var 4) (DB.of (dx_op (od_add rfl) (DB.of (dx_op (od_div) (db_var 4) (DB.of dx_int))) (DB.of dx_int))))) da_nil))) (DB.of dx_int)))
  (dss_cons (ds_set 4 nd (dx_op (od_mod) (DB.of (dx_cty (cd_int) T.b_int (by decide +kernel) (da_cB (DB.of (dx_op (od_mul rfl) (db_var 4) (DB.of (dx_op (od_add rfl) (DB.of (dx_op (od_div) (db_var 4) (DB.of dx_int))) (DB.of dx_int))))) da_nil))) (DB.of dx_int)))
  (dss_one (ds_ret (dx_op (od_mod) (DB.of (dx_cty (cd_int) T.b_int (by decide +kernel) (da_cB (DB.of (dx_op (od_div) (db_var 4) (DB.of dx_int))) da_nil))) (db_var 1))))))))))) hB
/-! ### _law_any -/
theorem sc__law_any : FnScope ["hand", "some"] ["hand", "some"] (defScope s__law_any) := ⟨rfl, rfl, rfl, by decide +kernel, rfl, by decide +kernel, by decide +kernel⟩
def B__law_any : Ts := (wRet (wOp gIx (wLook 1) (wCall 2 wDraw (wCons (wVal 0) (wCons (wCB gLen (wCons (wLook 1) wNil)) wNil)))))
theorem T__law_any_ex : ∃ T : Fn, T = wFn 2 B__law_any := ⟨_, rfl⟩
noncomputable def T__law_any : Fn := T__law_any_ex.choose
theorem T__law_any_eq : T__law_any = wFn 2 B__law_any := T__law_any_ex.choose_spec
theorem ok__law_any (T : Txt mg) (hO : ∀ c C, G.CT c = some C → ObjCls G.K C) (OF : ∀ c C, G.CT c = some C → Cls G.K C ∧ ∀ f ∈ (["rounds", "signs", "states"] : List Str), NoAttr G.K C f) (C__law_draw : Cal P w G mg base "_law_draw" 1 2 wDraw) (F : Fun G.K "_law_any" "_law_any" s__law_any f fd) : FnOk P w G.K mg base (L2.CX P w) 2 f fd ["hand", "some"] (spD G 2 T__law_any) := by
  rw [T__law_any_eq]
  exact fn_ok F sc__law_any rfl (fun cdv A outer s H E S eS hr => by
      subst eS
      have nd := sc__law_any.nd
      have hu65 : A.units + 3 + 65 < cLine := by have := hr.un; show _ < _; have e : (A.deeper (envOfC "_law_any" (defScope s__law_any) s.heap.objs.size f cdv)).units = A.units + 3 := rfl; omega
      exact (dss_one (ds_ret (dx_ix rfl (db_var 1) (DB.of (dx_call C__law_draw rfl (hr.mono (by decide)) (da_cS (dx_var 0) (da_cS (dx_cb (cd_len rfl) T.b_len (by decide +kernel) (da_cB (db_var 1) da_nil)) da_nil))))))))
/-! ### _law_state -/
theorem sc__law_state : FnScope ["scheme", "word", "here", "place", "sign"] ["scheme", "word"] (defScope s__law_state) := ⟨rfl, rfl, rfl, by decide +kernel, rfl, by decide +kernel, by decide +kernel⟩
def B__law_state_4 : Ts := (wRet (wVal 2))
def B__law_state_2 : Ts := (wSeq (wFor (wiEn (wVal 1)) (gTup 2 (gCons (gN 3) (gCons (gN 4) gNil))) (wAsg (wOp gIx (wOp gIx (wOp gIx (wFld "rounds" (wLook 0)) (wOp gMod (wCB gInt (wCons (wLook 3) wNil)) (wCB gLen (wCons (wFld "rounds" (wLook 0)) wNil)))) (wLook 2)) (wLook 4)) (gN 2)))
  B__law_state_4)
def B__law_state : Ts := (wSeq (wAsg (wC (.int 0)) (gN 2))
  B__law_state_2)
theorem T__law_state_ex : ∃ T : Fn, T = wFn 5 B__law_state := ⟨_, rfl⟩
noncomputable def T__law_state : Fn := T__law_state_ex.choose
theorem T__law_state_eq : T__law_state = wFn 5 B__law_state := T__law_state_ex.choose_spec
theorem ok__law_state (T : Txt mg) (hO : ∀ c C, G.CT c = some C → ObjCls G.K C) (OF : ∀ c C, G.CT c = some C → Cls G.K C ∧ ∀ f ∈ (["rounds", "signs", "states"] : List Str), NoAttr G.K C f) (F : Fun G.K "_law_state" "_law_state" s__law_state f fd) : FnOk P w G.K mg base (L2.CX P w) 1 f fd ["scheme", "word"] (spD G 2 T__law_state) := by
  rw [T__law_state_eq]
  exact fn_ok F sc__law_state rfl (fun cdv A outer s H E S eS hr => by
      subst eS
      have nd := sc__law_state.nd
      have hu65 : A.units + 3 + 65 < cLine := by have := hr.un; show _ < _; have e : (A.deeper (envOfC "_law_state" (defScope s__law_state) s.heap.objs.size f cdv)).units = A.units + 3 := rfl; omega
      exact (dss_cons (ds_set 2 nd dx_int)
      (dss_cons (ds_for rfl (di_enL mdS rfl T.b_enumerate (dx_var 1)) (dg_tup rfl rfl (dgs_cons (dg_name 3 nd) (dgs_cons (dg_name 4 nd) dgs_nil))) (dss_one (ds_set 2 nd (dx_ix rfl (DB.of (dx_ix rfl (DB.of (dx_ix rfl (DB.of (dx_fld rfl (fun c C h => ⟨(OF c C h).1, (OF c C h).2 _ (.head _)⟩) (db_var 0))) (DB.of (dx_op (od_mod) (DB.of (dx_cty (cd_int) T.b_int (by decide +kernel) (da_cB (db_var 3) da_nil))) (DB.of (dx_cb (cd_len rfl) T.b_len (by decide +kernel) (da_cB (DB.of (dx_fld rfl (fun c C h => ⟨(OF c C h).1, (OF c C h).2 _ (.head _)⟩) (db_var 0))) da_nil))))))) (db_var 2))) (db_var 4)))))
      (dss_one (ds_ret (dx_var 2))))))
/-! ### _law_word -/
theorem sc__law_word : FnScope ["hand", "signs", "most", "wide", "place"] ["hand", "signs", "most"] (defScope s__law_word) := ⟨rfl, rfl, rfl, by decide +kernel, rfl, by decide +kernel, by decide +kernel⟩
def B__law_word_2 : Ts := (wRet (wCB gTuple (wCons (wF (wLc (wiR1 (wCall 2 wDraw (wCons (wVal 0) (wCons (wOp gAdd (wLook 2) (wC (.int 1))) wNil)))) (gN 4) wYes (wCall 2 wDraw (wCons (wVal 0) (wCons (wVal 3) wNil))) [4])) wNil)))
def B__law_word : Ts := (wSeq (wAsg (wCall 2 T__law_any (wCons (wVal 0) (wCons (wF (wLst (wCons (wCB gMin2 (wCons (wC (.int 2)) (wCons (wLook 1) wNil))) (wCons (wVal 1) wNil)))) wNil))) (gN 3))
  B__law_word_2)
theorem T__law_word_ex : ∃ T : Fn, T = wFn 5 B__law_word := ⟨_, rfl⟩
noncomputable def T__law_word : Fn := T__law_word_ex.choose
theorem T__law_word_eq : T__law_word = wFn 5 B__law_word := T__law_word_ex.choose_spec
theorem ok__law_word (T : Txt mg) (hO : ∀ c C, G.CT c = some C → ObjCls G.K C) (OF : ∀ c C, G.CT c = some C → Cls G.K C ∧ ∀ f ∈ (["rounds", "signs", "states"] : List Str), NoAttr G.K C f) (C__law_draw : Cal P w G mg base "_law_draw" 1 2 wDraw) (C__law_any : Cal P w G mg base "_law_any" 2 2 T__law_any) (F : Fun G.K "_law_word" "_law_word" s__law_word f fd) : FnOk P w G.K mg base (L2.CX P w) 3 f fd ["hand", "signs", "most"] (spD G 3 T__law_word) := by
  rw [T__law_word_eq]
  exact fn_ok F sc__law_word rfl (fun cdv A outer s H E S eS hr => by
      subst eS
      have nd := sc__law_word.nd
      have hu65 : A.units + 3 + 65 < cLine := by have := hr.un; show _ < _; have e : (A.deeper (envOfC "_law_word" (defScope s__law_word) s.heap.objs.size f cdv)).units = A.units + 3 := rfl; omega
      exact (dss_cons (ds_set 3 nd (dx_call C__law_any rfl (hr.mono (by decide)) (da_cS (dx_var 0) (da_cS (dx_f (df_lst (da_cS (dx_cb (cd_min2 rfl) T.b_min (by decide +kernel) (da_cB (DB.of dx_int) (da_cB (db_var 1) da_nil))) (da_cS (dx_var 1) da_nil)))) da_nil))))
      (dss_one (ds_ret (dx_cty (cd_tuple rfl) T.b_tuple (by decide +kernel) (da_cB (DB.of (dx_f (df_lc rfl nd (di_r1 T.b_range (DB.of (dx_call C__law_draw rfl (hr.mono (by decide)) (da_cS (dx_var 0) (da_cS (dx_op (od_add rfl) (db_var 2) (DB.of dx_int)) da_nil))))) (blkOk_by (own := [("place", 4)]) (N := ["hand", "signs", "most", "wide", "place"]) (sc := (defScope s__law_word)) (by decide +kernel)) (fun _ _ _ _ _ => (dg_name 4 nd)) (fun _ _ _ _ _ => dif_nil) (fun _ _ _ _ _ => (dx_call C__law_draw rfl (hr.mono (by decide)) (da_cS (dx_var 0) (da_cS (dx_var 3) da_nil))))))) da_nil))))))
/-! ### _law_rounds -/
theorem sc__law_rounds : FnScope ["hand", "signs", "states", "found", "table", "rows", "state", "sign"] ["hand", "signs", "states"] (defScope s__law_rounds) := ⟨rfl, rfl, rfl, by decide +kernel, rfl, by decide +kernel, by decide +kernel⟩
def B__law_rounds_7 : Ts := (wRet (wCB gTuple (wCons (wLook 3) wNil)))
def B__law_rounds_6 : Ts := (wApp 3 (wCB gTuple (wCons (wLook 5) wNil)))
def B__law_rounds_4 : Ts := (wSeq (wFor (wiR1 (wLook 2)) (gN 6) (wApp 5 (wCB gTuple (wCons (wF (wLc (wiR1 (wLook 1)) (gN 7) wYes (wCall 2 wDraw (wCons (wVal 0) (wCons (wVal 2) wNil))) [7])) wNil))))
  B__law_rounds_6)
def B__law_rounds_3 : Ts := (wSeq (wOwn (wLst wNil) 5)
  B__law_rounds_4)
def B__law_rounds_2 : Ts := (wSeq (wFor (wiR1 (wOp gAdd (wC (.int 1)) (wCall 2 wDraw (wCons (wVal 0) (wCons (wC (.int 3)) wNil))))) (gN 4) B__law_rounds_3)
  B__law_rounds_7)
def B__law_rounds : Ts := (wSeq (wOwn (wLst wNil) 3)
  B__law_rounds_2)
theorem T__law_rounds_ex : ∃ T : Fn, T = wFn 8 B__law_rounds := ⟨_, rfl⟩
noncomputable def T__law_rounds : Fn := T__law_rounds_ex.choose
theorem T__law_rounds_eq : T__law_rounds = wFn 8 B__law_rounds := T__law_rounds_ex.choose_spec
theorem ok__law_rounds (T : Txt mg) (hO : ∀ c C, G.CT c = some C → ObjCls G.K C) (OF : ∀ c C, G.CT c = some C → Cls G.K C ∧ ∀ f ∈ (["rounds", "signs", "states"] : List Str), NoAttr G.K C f) (C__law_draw : Cal P w G mg base "_law_draw" 1 2 wDraw) (F : Fun G.K "_law_rounds" "_law_rounds" s__law_rounds f fd) : FnOk P w G.K mg base (L2.CX P w) 2 f fd ["hand", "signs", "states"] (spD G 3 T__law_rounds) := by
  rw [T__law_rounds_eq]
  exact fn_ok F sc__law_rounds rfl (fun cdv A outer s H E S eS hr => by
      subst eS
      have nd := sc__law_rounds.nd
      have hu65 : A.units + 3 + 65 < cLine := by have := hr.un; show _ < _; have e : (A.deeper (envOfC "_law_rounds" (defScope s__law_rounds) s.heap.objs.size f cdv)).units = A.units + 3 := rfl; omega
      exact (dss_cons (ds_own 3 nd (df_lst da_nil))
      (dss_cons (ds_for rfl (di_r1 T.b_range (DB.of (dx_op (od_add rfl) (DB.of dx_int) (DB.of (dx_call C__law_draw rfl (hr.mono (by decide)) (da_cS (dx_var 0) (da_cS dx_int da_nil))))))) (dg_name 4 nd) (dss_cons (ds_own 5 nd (df_lst da_nil))
      (dss_cons (ds_for rfl (di_r1 T.b_range (db_var 2)) (dg_name 6 nd) (dss_one (ds_app 5 (dx_cty (cd_tuple rfl) T.b_tuple (by decide +kernel) (da_cB (DB.of (dx_f (df_lc rfl nd (di_r1 T.b_range (db_var 1)) (blkOk_by (own := [("sign", 7)]) (N := ["hand", "signs", "states", "found", "table", "rows", "state", "sign"]) (sc := (defScope s__law_rounds)) (by decide +kernel)) (fun _ _ _ _ _ => (dg_name 7 nd)) (fun _ _ _ _ _ => dif_nil) (fun _ _ _ _ _ => (dx_call C__law_draw rfl (hr.mono (by decide)) (da_cS (dx_var 0) (da_cS (dx_var 2) da_nil))))))) da_nil)))))
      (dss_one (ds_app 3 (dx_cty (cd_tuple rfl) T.b_tuple (by decide +kernel) (da_cB (db_var 5) da_nil)))))))
      (dss_one (ds_ret (dx_cty (cd_tuple rfl) T.b_tuple (by decide +kernel) (da_cB (db_var 3) da_nil)))))))
/-! ### _law_scheme -/
theorem sc__law_scheme : FnScope ["hand", "most", "signs", "states", "round_rows", "rows", "state", "sign"] ["hand", "most"] (defScope s__law_scheme) := ⟨rfl, rfl, rfl, by decide +kernel, rfl, by decide +kernel, by decide +kernel⟩
def B__law_scheme_8 : Ts := (wRet (wCall 3 T_Scheme (wCons (wVal 2) (wCons (wVal 3) (wCons (wVal 4) wNil)))))
def B__law_scheme_7 : Ts := (wPar (wV (wVal 2)) (wV (wTup (wCons (wCB gTuple (wCons (wLook 5) wNil)) wNil))) 3 4)
def B__law_scheme_5 : Ts := (wSeq (wFor (wiR1 (wLook 2)) (gN 6) (wApp 5 (wCB gTuple (wCons (wF (wLc (wiR1 (wLook 2)) (gN 7) wYes (wOp gMod (wCB gInt (wCons (wOp gAdd (wLook 6) (wLook 7)) wNil)) (wLook 2)) [7])) wNil))))
  B__law_scheme_7)
def B__law_scheme_4 : Ts := (wSeq (wOwn (wLst wNil) 5)
  B__law_scheme_5)
def B__law_scheme_3 : Ts := (wSeq (wIfS (wTst (wOp gEq (wCall 2 wDraw (wCons (wVal 0) (wCons (wC (.int 2)) wNil))) (wC (.int 0)))) B__law_scheme_4 wSkip)
  B__law_scheme_8)
def B__law_scheme_2 : Ts := (wSeq (wAsg (wCall 3 T__law_rounds (wCons (wVal 0) (wCons (wVal 2) (wCons (wVal 3) wNil)))) (gN 4))
  B__law_scheme_3)
def B__law_scheme : Ts := (wSeq (wAsg (wTup (wCons (wOp gAdd (wC (.int 2)) (wCall 2 wDraw (wCons (wVal 0) (wCons (wOp gSub (wLook 1) (wC (.int 1))) wNil)))) (wCons (wOp gAdd (wC (.int 1)) (wCall 2 wDraw (wCons (wVal 0) (wCons (wC (.int 4)) wNil)))) wNil))) (gTup 2 (gCons (gN 2) (gCons (gN 3) gNil))))
  B__law_scheme_2)
theorem T__law_scheme_ex : ∃ T : Fn, T = wFn 8 B__law_scheme := ⟨_, rfl⟩
noncomputable def T__law_scheme : Fn := T__law_scheme_ex.choose
theorem T__law_scheme_eq : T__law_scheme = wFn 8 B__law_scheme := T__law_scheme_ex.choose_spec
theorem ok__law_scheme (T : Txt mg) (hO : ∀ c C, G.CT c = some C → ObjCls G.K C) (OF : ∀ c C, G.CT c = some C → Cls G.K C ∧ ∀ f ∈ (["rounds", "signs", "states"] : List Str), NoAttr G.K C f) (M_Scheme : Mak P w G mg base "Scheme" "Scheme" 4 3 T_Scheme) (C__law_draw : Cal P w G mg base "_law_draw" 1 2 wDraw) (C__law_rounds : Cal P w G mg base "_law_rounds" 2 3 T__law_rounds) (F : Fun G.K "_law_scheme" "_law_scheme" s__law_scheme f fd) : FnOk P w G.K mg base (L2.CX P w) 6 f fd ["hand", "most"] (spD G 2 T__law_scheme) := by
  rw [T__law_scheme_eq]
  exact fn_ok F sc__law_scheme rfl (fun cdv A outer s H E S eS hr => by
      subst eS
      have nd := sc__law_scheme.nd
      have hu65 : A.units + 3 + 65 < cLine := by have := hr.un; show _ < _; have e : (A.deeper (envOfC "_law_scheme" (defScope s__law_scheme) s.heap.objs.size f cdv)).units = A.units + 3 := rfl; omega
      exact (dss_cons (ds_asg (dx_tup (da_cS (dx_op (od_add rfl) (DB.of dx_int) (DB.of (dx_call C__law_draw rfl (hr.mono (by decide)) (da_cS (dx_var 0) (da_cS (dx_op (od_sub) (db_var 1) (DB.of dx_int)) da_nil))))) (da_cS (dx_op (od_add rfl) (DB.of dx_int) (DB.of (dx_call C__law_draw rfl (hr.mono (by decide)) (da_cS (dx_var 0) (da_cS dx_int da_nil))))) da_nil))) (dg_tup rfl rfl (dgs_cons (dg_name 2 nd) (dgs_cons (dg_name 3 nd) dgs_nil))))
      (dss_cons (ds_set 4 nd (dx_call C__law_rounds rfl (hr.mono (by decide)) (da_cS (dx_var 0) (da_cS (dx_var 2) (da_cS (dx_var 3) da_nil)))))
      (dss_cons (ds_if (dt_cmp (od_eq rfl hr.units) (DB.of (dx_call C__law_draw rfl (hr.mono (by decide)) (da_cS (dx_var 0) (da_cS dx_int da_nil)))) (DB.of dx_int) (by first | exact nomark _ | rfl)) (dss_cons (ds_own 5 nd (df_lst da_nil))
      (dss_cons (ds_for rfl (di_r1 T.b_range (db_var 2)) (dg_name 6 nd) (dss_one (ds_app 5 (dx_cty (cd_tuple rfl) T.b_tuple (by decide +kernel) (da_cB (DB.of (dx_f (df_lc rfl nd (di_r1 T.b_range (db_var 2)) (blkOk_by (own := [("sign", 7)]) (N := ["hand", "most", "signs", "states", "round_rows", "rows", "state", "sign"]) (sc := (defScope s__law_scheme)) (by decide +kernel)) (fun _ _ _ _ _ => (dg_name 7 nd)) (fun _ _ _ _ _ => dif_nil) (fun _ _ _ _ _ => (dx_op (od_mod) (DB.of (dx_cty (cd_int) T.b_int (by decide +kernel) (da_cB (DB.of (dx_op (od_add rfl) (db_var 6) (db_var 7))) da_nil))) (db_var 2)))))) da_nil)))))
      (dss_one (ds_par 3 4 rfl nd (do_v (dx_var 2)) (do_v (dx_tup (da_cS (dx_cty (cd_tuple rfl) T.b_tuple (by decide +kernel) (da_cB (db_var 5) da_nil)) da_nil))) (by rfl))))) dss_nil)
      (dss_one (ds_ret (dx_make M_Scheme rfl (hr.mono (by decide)) (da_cS (dx_var 2) (da_cS (dx_var 3) (da_cS (dx_var 4) da_nil))))))))))
/-! ### law -/
theorem sc_law : FnScope ["script", "hand", "turn", "scheme", "signs", "again", "word", "due", "bad", "thing", "words_said", "many"] ["script"] (defScope s_law) := ⟨rfl, rfl, rfl, by decide +kernel, rfl, by decide +kernel, by decide +kernel⟩
def B_law_20 : Ts := (wRet (wOp gEq (wCall 2 T_state_of (wCons (wCall 3 T_Scheme (wCons (wC (.int 2)) (wCons (wC (.int 2)) (wCons (wTup (wCons (wTup (wCons (wTup (wCons (wC (.int 0)) (wCons (wC (.int 1)) wNil))) (wCons (wTup (wCons (wC (.int 1)) (wCons (wC (.int 0)) wNil))) wNil))) wNil)) wNil)))) (wCons (wTup (wCons (wC (.int 1)) (wCons (wC (.int 0)) (wCons (wC (.int 1)) (wCons (wC (.int 1)) wNil))))) wNil))) (wC (.int 1))))
def B_law_18 : Ts := (wIfS (wOr (wTst (wOp gNe (wLook 10) (wOp gMul (wF (wLst (wCons (wC (.str "word")) wNil))) (wC (.int 2))))) (wTst (wOp gIsN (wCall 2 T_is_good (wCons (wVal 3) (wCons (wTup wNil) wNil))) (wC (.bl true))))) (wRet (wC (.bl false))) wSkip)
def B_law_17 : Ts := (wSeq (wApp 10 (wLam F__law_said (wCall 2 T_read_on (wCons (wVal 3) (wCons (wVal 8) wNil)))))
  B_law_18)
def B_law_16 : Ts := (wSeq (wOwn (wLst (wCons (wLam F__law_said (wCall 2 T_state_of (wCons (wVal 3) (wCons (wVal 8) wNil)))) wNil)) 10)
  B_law_17)
def B_law_14 : Ts := (wIfS (wTst (wOp gIsN (wCall 2 T_is_good (wCons (wVal 3) (wCons (wVal 9) wNil))) (wC (.bl false)))) (wRet (wC (.bl false))) wSkip)
def B_law_13 : Ts := (wSeq (wFor (wiSq (wF (wLst (wCons (wCB gList (wCons (wLook 6) wNil)) (wCons (wC .non) (wCons (wC (.str "?")) (wCons (wC (.int 0)) (wCons (wTup (wCons (wVal 4) wNil)) (wCons (wTup (wCons (wC (.bl true)) wNil)) (wCons (wTup (wCons (wNeg (wC (.int 1))) wNil)) (wCons (wOp gMul (wTup (wCons (wC (.int 0)) wNil)) (wC (.int 25))) (wCons (wVal 8) wNil)))))))))))) (gN 9) B_law_14)
  B_law_16)
def B_law_12 : Ts := (wSeq (wAsg (wCall 2 T__law_any (wCons (wVal 1) (wCons (wF (wLst (wCons (wC .non) (wCons (wF (wLst (wCons (wC (.int 0)) wNil))) (wCons (wTup (wCons (wVal 4) wNil)) (wCons (wTup (wCons (wNeg (wC (.int 1))) wNil)) (wCons (wTup (wCons (wC (.bl true)) wNil)) (wCons (wC (.str "?")) (wCons (wTup (wCons (wC .non) wNil)) (wCons (wOp gMul (wTup (wCons (wC (.int 0)) wNil)) (wC (.int 25))) (wCons (wC (.int 0)) wNil))))))))))) wNil))) (gN 8))
  B_law_13)
def B_law_10 : Ts := (wIfS (wTst (wOp gNe (wCall 2 T_is_good (wCons (wVal 3) (wCons (wVal 6) wNil))) (wOp gEq (wOp gIx (wLook 7) (wNeg (wC (.int 1)))) (wC (.int 0))))) (wRet (wC (.bl false))) wSkip)
def B_law_8 : Ts := (wSeq (wIfS (wOr (wTst (wOp gNe (wCall 2 T_read_on (wCons (wVal 3) (wCons (wVal 6) wNil))) (wCB gTuple (wCons (wLook 7) wNil)))) (wTst (wOp gNe (wCall 2 T_state_of (wCons (wVal 3) (wCons (wVal 6) wNil))) (wOp gIx (wLook 7) (wNeg (wC (.int 1))))))) (wRet (wC (.bl false))) wSkip)
  B_law_10)
def B_law_7 : Ts := (wSeq (wAsg (wF (wLc (wiR1 (wOp gAdd (wCB gLen (wCons (wLook 6) wNil)) (wC (.int 1)))) (gN 11) wYes (wCall 2 T__law_state (wCons (wVal 3) (wCons (wSlc (wLook 6) wNoP (wPart (wLook 11))) wNil))) [11])) (gN 7))
  B_law_8)
def B_law_6 : Ts := (wSeq (wAsg (wCall 3 T__law_word (wCons (wVal 1) (wCons (wVal 4) (wCons (wCall 2 T__law_any (wCons (wVal 1) (wCons (wF (wLst (wCons (wC (.int 3)) (wCons (wC (.int 8)) (wCons (wC (.int 24)) wNil))))) wNil))) wNil)))) (gN 6))
  B_law_7)
def B_law_5 : Ts := (wSeq (wFor (wiR1 (wC (.int 4))) (gN 5) B_law_6)
  B_law_12)
def B_law_4 : Ts := (wSeq (wAsg (wFld "signs" (wLook 3)) (gN 4))
  B_law_5)
def B_law_3 : Ts := (wSeq (wAsg (wCall 2 T__law_scheme (wCons (wVal 1) (wCons (wC (.int 4)) wNil))) (gN 3))
  B_law_4)
def B_law : Ts := (wSeq (wFor (wiR1 (wC (.int 6))) (gN 2) B_law_3)
  B_law_20)
theorem ok_law (T : Txt mg) (hO : ∀ c C, G.CT c = some C → ObjCls G.K C) (OF : ∀ c C, G.CT c = some C → Cls G.K C ∧ ∀ f ∈ (["rounds", "signs", "states"] : List Str), NoAttr G.K C f) (X : ErT G mg) (C_state_of : Cal P w G mg base "state_of" 6 2 T_state_of) (M_Scheme : Mak P w G mg base "Scheme" "Scheme" 4 3 T_Scheme) (C_is_good : Cal P w G mg base "is_good" 4 2 T_is_good) (L__law_said : LamF P w G mg base "_law_said" F__law_said) (C_read_on : Cal P w G mg base "read_on" 6 2 T_read_on) (C__law_any : Cal P w G mg base "_law_any" 2 2 T__law_any) (C__law_state : Cal P w G mg base "_law_state" 1 2 T__law_state) (C__law_word : Cal P w G mg base "_law_word" 3 3 T__law_word) (C__law_scheme : Cal P w G mg base "_law_scheme" 6 2 T__law_scheme) {c PT : Addr} (TB : LamX.TabB base mg c PT) (mT : (PT, (("law" : Str) ++ ".<locals>." ++ "<lambda>")) ∈ G.T) (uT : ∀ p ∈ G.T, p.1 = PT → p.2 = (("law" : Str) ++ ".<locals>." ++ "<lambda>")) {fh : Addr} {fdh : FuncData} (Fh : FnOk P w G.K mg base (L2.CX P w) 1 fh fdh ["script"] (handSp G)) (mh : mg "_law_hand" = some (.ref fh)) (kh : PySem.W.keepIn G.K (.ref fh) = true) (bh : L2.Binds G.K fdh ["script"] []) (F : FunC G.K "law" "law" s_law f fd c) (hB : B_law (.no :: .val .hand :: List.replicate (12 - 2) .no) { nx := fun _ => False, rt := fun d _ => d = .bl true, bk := fun _ => False, ct := fun _ => False, ex := fun _ _ => False }) : FnOk P w G.K mg base (L2.CX P w) 9 f fd ["script"] (lawSp G) := law_fnC F sc_law rfl (by decide) rfl (fun A outer s H E hr => ps_set sc_law.nd rfl (Or.inl rfl) (pe_callS Fh (hr.mono (by decide)) rfl mh kh bh (fun σ pins H s e s1 I c => (by obtain ⟨_, _, _, _, _, _, _, _, _, _, _, _, z⟩ := c; exact z.elim)) (pa_cons (pv 0) pa_nil)) ) (fun A outer s H E S eS hr => by
  subst eS
  have nd := sc_law.nd
  have hu65 : A.units + 3 + 65 < cLine := by have := hr.un; show _ < _; have e : (A.deeper (envOfC "law" (defScope s_law) s.heap.objs.size f (.ref c))).units = A.units + 3 := rfl; omega
  exact (dss_cons (ds_for rfl (di_r1 T.b_range (DB.of dx_int)) (dg_name 2 nd) (dss_cons (ds_set 3 nd (dx_call C__law_scheme rfl (hr.mono (by decide)) (da_cS (dx_var 1) (da_cS dx_int da_nil))))
  (dss_cons (ds_set 4 nd (dx_fld rfl (fun c C h => ⟨(OF c C h).1, (OF c C h).2 _ (.tail _ (.head _))⟩) (db_var 3)))
  (dss_cons (ds_for rfl (di_r1 T.b_range (DB.of dx_int)) (dg_name 5 nd) (dss_cons (ds_set 6 nd (dx_call C__law_word rfl (hr.mono (by decide)) (da_cS (dx_var 1) (da_cS (dx_var 4) (da_cS (dx_call C__law_any rfl (hr.mono (by decide)) (da_cS (dx_var 1) (da_cS (dx_f (df_lst (da_cS dx_int (da_cS dx_int (da_cS dx_int da_nil))))) da_nil))) da_nil)))))
  (dss_cons (ds_valLc 7 rfl nd (di_r1 T.b_range (DB.of (dx_op (od_add rfl) (DB.of (dx_cb (cd_len rfl) T.b_len (by decide +kernel) (da_cB (db_var 6) da_nil))) (DB.of dx_int)))) (blkOk_by (own := [("many", 11)]) (N := ["script", "hand", "turn", "scheme", "signs", "again", "word", "due", "bad", "thing", "words_said", "many"]) (sc := (defScope s_law)) (by decide +kernel)) (fun _ _ _ _ _ => (dg_name 11 nd)) (fun _ _ _ _ _ => dif_nil) (fun _ _ _ _ _ => (dx_call C__law_state rfl (hr.mono (by decide)) (da_cS (dx_var 3) (da_cS (dx_slc rfl (db_var 6) dp_none (dp_some (db_var 11))) da_nil)))) (sw_true rfl rfl rfl (by decide +kernel)))
  (dss_cons (ds_if (DW.dt (dw_or (dt_cmp (od_ne rfl hr.units) (DB.of (dx_call C_read_on rfl (hr.mono (by decide)) (da_cS (dx_var 3) (da_cS (dx_var 6) da_nil)))) (DB.of (dx_cty (cd_tuple rfl) T.b_tuple (by decide +kernel) (da_cB (db_var 7) da_nil))) (by first | exact nomark _ | rfl)) (dw_or1 (dt_cmp (od_ne rfl hr.units) (DB.of (dx_call C_state_of rfl (hr.mono (by decide)) (da_cS (dx_var 3) (da_cS (dx_var 6) da_nil)))) (DB.of (dx_ix rfl (db_var 7) (DB.of (dx_neg (DB.of dx_int))))) (by first | exact nomark _ | rfl))))) (dss_one (ds_ret dx_bl)) dss_nil)
  (dss_one (ds_if (dt_cmp (od_ne rfl hr.units) (DB.of (dx_call C_is_good rfl (hr.mono (by decide)) (da_cS (dx_var 3) (da_cS (dx_var 6) da_nil)))) (DB.of (dx_cmp (od_eq rfl hr.units) (DB.of (dx_ix rfl (db_var 7) (DB.of (dx_neg (DB.of dx_int))))) (DB.of dx_int) (by first | exact nomark _ | rfl))) (by first | exact nomark _ | rfl)) (dss_one (ds_ret dx_bl)) dss_nil))))))
  (dss_cons (ds_set 8 nd (dx_call C__law_any rfl (hr.mono (by decide)) (da_cS (dx_var 1) (da_cS (dx_f (df_lst (da_cS dx_non (da_cS (dx_f (df_lst (da_cS dx_int da_nil))) (da_cS (dx_tup (da_cS (dx_var 4) da_nil)) (da_cS (dx_tup (da_cS (dx_neg (DB.of dx_int)) da_nil)) (da_cS (dx_tup (da_cS dx_bl da_nil)) (da_cS dx_str (da_cS (dx_tup (da_cS dx_non da_nil)) (da_cS (dx_op (od_mul rfl) (DB.of (dx_tup (da_cS dx_int da_nil))) (DB.of dx_int)) (da_cS dx_int da_nil))))))))))) da_nil))))
  (dss_cons (ds_for rfl (di_sq mdS rfl (dx_f (df_lst (da_cS (dx_cty (cd_list rfl) T.b_list (by decide +kernel) (da_cB (db_var 6) da_nil)) (da_cS dx_non (da_cS dx_str (da_cS dx_int (da_cS (dx_tup (da_cS (dx_var 4) da_nil)) (da_cS (dx_tup (da_cS dx_bl da_nil)) (da_cS (dx_tup (da_cS (dx_neg (DB.of dx_int)) da_nil)) (da_cS (dx_op (od_mul rfl) (DB.of (dx_tup (da_cS dx_int da_nil))) (DB.of dx_int)) (da_cS (dx_var 8) da_nil)))))))))))) (dg_name 9 nd) (dss_one (ds_if (dt_cmp (od_isN) (DB.of (dx_call C_is_good rfl (hr.mono (by decide)) (da_cS (dx_var 3) (da_cS (dx_var 9) da_nil)))) (DB.of dx_bl) (by first | exact nomark _ | rfl)) (dss_one (ds_ret dx_bl)) dss_nil)))
  (dss_cons (ds_own 10 nd (df_lst (da_cS (dx_lamF (k := 6) L__law_said rfl TB rfl mT uT (hr.mono (by decide)) (LamX.lamS_by (by first | decide +kernel | rfl)) (fun _ _ _ _ _ _ _ hl => (dx_call C_state_of rfl (hl.mono (by decide)) (da_cS (dx_var 3) (da_cS (dx_var 8) da_nil))))) da_nil)))
  (dss_cons (ds_app 10 (dx_lamF (k := 6) L__law_said rfl TB rfl mT uT (hr.mono (by decide)) (LamX.lamS_by (by first | decide +kernel | rfl)) (fun _ _ _ _ _ _ _ hl => (dx_call C_read_on rfl (hl.mono (by decide)) (da_cS (dx_var 3) (da_cS (dx_var 8) da_nil))))))
  (dss_one (ds_if (DW.dt (dw_or (dt_cmp (od_ne rfl hr.units) (db_var 10) (DB.of (dx_op (od_mul rfl) (DB.of (dx_f (df_lst (da_cS dx_str da_nil)))) (DB.of dx_int))) (by first | exact nomark _ | rfl)) (dw_or1 (dt_cmp (od_isN) (DB.of (dx_call C_is_good rfl (hr.mono (by decide)) (da_cS (dx_var 3) (da_cS (dx_tup da_nil) da_nil)))) (DB.of dx_bl) (by first | exact nomark _ | rfl))))) (dss_one (ds_ret dx_bl)) dss_nil))))))))))
  (dss_one (ds_ret (dx_cmp (od_eq rfl hr.units) (DB.of (dx_call C_state_of rfl (hr.mono (by decide)) (da_cS (dx_make M_Scheme rfl (hr.mono (by decide)) (da_cS dx_int (da_cS dx_int (da_cS (dx_tup (da_cS (dx_tup (da_cS (dx_tup (da_cS dx_int (da_cS dx_int da_nil))) (da_cS (dx_tup (da_cS dx_int (da_cS dx_int da_nil))) da_nil))) da_nil)) da_nil)))) (da_cS (dx_tup (da_cS dx_int (da_cS dx_int (da_cS dx_int (da_cS dx_int da_nil))))) da_nil)))) (DB.of dx_int) (by first | exact nomark _ | rfl)))))) hB
end
abbrev s_init_BadScheme : Stmt := inClass (top 2) 0
section
variable {P : Program} {w : World} {K : PySem.W.Frag} {mg : Str → Option Value} {base : Heap} {f : Addr} {fd : FuncData}
theorem sc_init_BadScheme : FnScope ["self", "part"] ["self", "part"] (defScope s_init_BadScheme) := ⟨rfl, rfl, rfl, by decide +kernel, rfl, by decide +kernel, by decide +kernel⟩
theorem ok_init_BadScheme {C0 g0 : Addr} {mc : Value} {fd0 : FuncData} (m0 : mg "CheckError" = some (.ref C0)) (rd : ClX.CRead K C0 mc) (c0 : PySem.W.findCls K (.ref C0) mc "__init__" = some (.val (.ref g0))) (F0 : FnOk P w K mg base (L2.CX P w) 1 g0 fd0 ["self"] (sp0 K)) (k0 : PySem.W.keepIn K (.ref g0) = true) (b0 : L2.Binds K fd0 ["self"] [])
    (F : Fun K "__init__" "BadScheme.__init__" s_init_BadScheme f fd) : FnOk P w K mg base (L2.CX P w) 2 f fd ["self", "part"] (sp1 K "part") := by
  refine F.okX sc_init_BadScheme (fun vs H Q E h => ?_) fun cdv A outer s H E vs Q hr h => ?_
  · obtain ⟨a, C, v, rfl, _⟩ := h
    rfl
  · obtain ⟨a, C, v, rfl, hO, hno, ha, hq⟩ := h
    exact ⟨_, pss_cons (ps_expr (pe_cfn (E := fun _ _ _ => False) (pe_glob (v := .ref C0) rfl m0 rfl (by decide)) rd c0 F0 hr k0 b0 (fun σ pins H s e s1 I c => (by obtain ⟨_, _, _, _, _, _, _, _, _, _, _, _, z⟩ := c; exact z.elim)) (pa_cons (pv 0) pa_nil))) (pss_one (ps_ost (pv 0) (pv 1))),
      rfl, .ref a, rfl, a, C, rfl, hO, ha, v, rfl, .ref a, rfl, a, C, rfl, hO, hno, .inl ⟨ha, hq⟩⟩
end
abbrev s_init_CheckError : Stmt := inClass (top 1) 0
section
variable {P : Program} {w : World} {K : PySem.W.Frag} {mg : Str → Option Value} {base : Heap} {f : Addr} {fd : FuncData}
theorem sc_init_CheckError : FnScope ["self"] ["self"] (defScope s_init_CheckError) := ⟨rfl, rfl, rfl, by decide +kernel, rfl, by decide +kernel, by decide +kernel⟩
theorem ok_init_CheckError (hm : mg "ValueError" = none) (vV : PySem.W.findCls K (.type "ValueError") (.type "type") "__init__" = some (.val (.builtin "ValueError.__init__"))) (F : Fun K "__init__" "CheckError.__init__" s_init_CheckError f fd) : FnOk P w K mg base (L2.CX P w) 1 f fd ["self"] (sp0 K) := by
  refine F.okX sc_init_CheckError (fun vs H Q E h => ?_) fun cdv A outer s H E vs Q hr h => ?_
  · obtain ⟨a, C, rfl, _⟩ := h
    rfl
  · obtain ⟨a, C, rfl, hO, ha, hq⟩ := h
    exact ⟨_, pss_one (ps_expr (pe_veinit rfl hm vV (pa_cons (pv 0) pa_nil))), .ref a, rfl, a, C, [], rfl, by simp, hO, ha, hq⟩
end
end Law

set_option Elab.async false
set_option linter.all false
set_option maxRecDepth 100000
namespace Law
open PySem PySem.Spec PyProof.Rows L2 DV
theorem hb_hand : ∀ (ns : List Int), ns.length ≤ 63 → ∀ Q : Post, (∀ (a : Addr) (cells : List Int) (seed : Int) (r : DV.Env), (∀ x ∈ cells, 0 ≤ x) → 0 ≤ seed → seed < 9223372036854775808 → Q.rf (.own a (handL cells 0 0 seed 0)) r) → B__law_hand (.val (.frz (ns.map D.int)) :: List.replicate (3 - 1) .no) Q := by
  intro ns hl Q h
  have e0 : DV.cutD (ns.map D.int) none (some 63) = (ns.take 63).map D.int := by
    unfold DV.cutD
    rw [HT.sIx_none, show (some 63 : Option Int) = some ((63 : Nat) : Int) from rfl, HT.sIx_nat, List.drop_zero, List.length_map, Nat.sub_zero, Nat.min_eq_right hl, List.take_of_length_le (by simp), List.take_of_length_le hl]
  unfold B__law_hand
  simp only [wSeq, wAsg, wOwn, wF, wLc, wSkip, wBrk, wCnt, wRet, wRetF, wRetN, wDrop, wIfS, wPar, wFor, wWh, wV, wApp, wExt, wSetIx, wAug, wVal, wLook, wC, wOp, wTst, wChain, wAnd, wOr, wNot, wAndV, wOrV, wNotV, wIf, wNil, wCons, wTup, wLst, wCall, wCB, wIsT, wiR1, wiR2, wiSq, wiEn, wiZip, gN, gT1, gT2, gT3, gT4, gT5, gT6, gT7, wYes, gAdd, DV.gSub, gMul, gMod, gDiv, gPow, gLt, gLe, gGt, gGe, gCmp, gEq, gNe, gIs, gIsN, DV.isNon, gIn, gNotIn, gIx, gSlc, wSlc, wNoP, wPart, gLen, gAbs, gInt, gMin2, gMax2, gAll, gAny, gSum, gTuple, wNeg, wRev, wRevX, itemsOf, D.isTy, D.isHand, Sl.toD, big_0, big_1, big_2, big_3, big_4, big_5, big_6, big_7, big_8, big_9, big_10, big_11, big_12, draw_iff, own_ex, val_ex, wipeE, restE, Sl.keep, Option.getD_some, get_z, get_s, set_z, set_s, List.length_cons, List.length_nil, atI_0, atI_1, atI_2, atI_3, atI_4, ixN_5_0, ixN_5_1, ixN_5_2, ixN_5_3, ixN_5_4, D.bl.injEq, D.int.injEq, D.lst.injEq, D.tup.injEq, D.str.injEq, Sl.own.injEq, Sl.val.injEq, Option.some.injEq, exists_eq_left', exists_eq_left, exists_eq', exists_eq, or_true, true_or, or_false, false_or, CMul, CPow, natAbs_10, natAbs_2, Int.cast_ofNat_Int, Nat.reducePow, exists_and_left, exists_const, and_assoc, true_and, and_true, and_self, false_and, and_false, if_true, if_false, ite_true, ite_false, reduceCtorEq, decide_true, decide_false, decide_eq_true_eq, decide_eq_false_iff_not, Bool.not_true, Bool.not_false, Bool.false_eq_true, List.replicate_zero, List.replicate_succ, List.map_cons, List.map_nil, List.nil_append, List.cons_append, Nat.reduceSub, Nat.reduceAdd, Nat.reduceLeDiff, Nat.reduceLT, Int.reduceLT, Int.reduceLE, Int.reduceAdd, Int.reduceSub, Int.reduceMul, Int.reduceNeg, Int.reduceMod, Int.reduceDiv, Int.reducePow, Int.reduceToNat, okD_int, okD_bl, okD_lst, okD_tup, okD_non, okL_nil, okL_cons, okD_str, okL_int, eqD_int, eqD_bl, eqD_str, eqD_tup, eqD_lst, eqL_cons, eqL_nil, eqL_cn, eqL_nc, eqL_int, Bool.and_eq_true, Bool.or_eq_true, Bool.not_eq_true', Bool.and_false, Bool.false_and, Bool.or_false, Bool.false_or, Bool.or_true, Bool.true_or, Bool.and_true, Bool.true_and, Bool.and_self, wIsT2, wDct0, wLstOf, wRepF, wAsgH, DV.hN, hIx, hCons, hNil, hTup, wLM, gCnt, gIdx, gList, gSorted, wDctO, wPar3, wAppPop, wRaise0, wRaise1, wTry, wIsE, wAct, wFl, flD, gAnyX, gSumX, wCatF, wSSet, wLstR1, wLstR2, wTupR1, wFld, e0]
  refine ⟨by unfold big; simp; omega, ?_⟩
  refine lc_map (fun d => match d with | .int i => .int ((if i < 0 then -i else i) % 1000000000000000000000000000000000000) | d => d) (fun x hx K' hk => ?_) fun a => ?_
  · obtain ⟨i, _, rfl⟩ := List.mem_map.mp hx
    (try simp only [wSeq, wAsg, wOwn, wF, wLc, wSkip, wBrk, wCnt, wRet, wRetF, wRetN, wDrop, wIfS, wPar, wFor, wWh, wV, wApp, wExt, wSetIx, wAug, wVal, wLook, wC, wOp, wTst, wChain, wAnd, wOr, wNot, wAndV, wOrV, wNotV, wIf, wNil, wCons, wTup, wLst, wCall, wCB, wIsT, wiR1, wiR2, wiSq, wiEn, wiZip, gN, gT1, gT2, gT3, gT4, gT5, gT6, gT7, wYes, gAdd, DV.gSub, gMul, gMod, gDiv, gPow, gLt, gLe, gGt, gGe, gCmp, gEq, gNe, gIs, gIsN, DV.isNon, gIn, gNotIn, gIx, gSlc, wSlc, wNoP, wPart, gLen, gAbs, gInt, gMin2, gMax2, gAll, gAny, gSum, gTuple, wNeg, wRev, wRevX, itemsOf, D.isTy, D.isHand, Sl.toD, big_0, big_1, big_2, big_3, big_4, big_5, big_6, big_7, big_8, big_9, big_10, big_11, big_12, draw_iff, own_ex, val_ex, wipeE, restE, Sl.keep, Option.getD_some, get_z, get_s, set_z, set_s, List.length_cons, List.length_nil, atI_0, atI_1, atI_2, atI_3, atI_4, ixN_5_0, ixN_5_1, ixN_5_2, ixN_5_3, ixN_5_4, D.bl.injEq, D.int.injEq, D.lst.injEq, D.tup.injEq, D.str.injEq, Sl.own.injEq, Sl.val.injEq, Option.some.injEq, exists_eq_left', exists_eq_left, exists_eq', exists_eq, or_true, true_or, or_false, false_or, CMul, CPow, natAbs_10, natAbs_2, Int.cast_ofNat_Int, Nat.reducePow, exists_and_left, exists_const, and_assoc, true_and, and_true, and_self, false_and, and_false, if_true, if_false, ite_true, ite_false, reduceCtorEq, decide_true, decide_false, decide_eq_true_eq, decide_eq_false_iff_not, Bool.not_true, Bool.not_false, Bool.false_eq_true, List.replicate_zero, List.replicate_succ, List.map_cons, List.map_nil, List.nil_append, List.cons_append, Nat.reduceSub, Nat.reduceAdd, Nat.reduceLeDiff, Nat.reduceLT, Int.reduceLT, Int.reduceLE, Int.reduceAdd, Int.reduceSub, Int.reduceMul, Int.reduceNeg, Int.reduceMod, Int.reduceDiv, Int.reducePow, Int.reduceToNat, okD_int, okD_bl, okD_lst, okD_tup, okD_non, okL_nil, okL_cons, okD_str, okL_int, eqD_int, eqD_bl, eqD_str, eqD_tup, eqD_lst, eqL_cons, eqL_nil, eqL_cn, eqL_nc, eqL_int, Bool.and_eq_true, Bool.or_eq_true, Bool.not_eq_true', Bool.and_false, Bool.false_and, Bool.or_false, Bool.false_or, Bool.or_true, Bool.true_or, Bool.and_true, Bool.true_and, Bool.and_self, wIsT2, wDct0, wLstOf, wRepF, wAsgH, DV.hN, hIx, hCons, hNil, hTup, wLM, gCnt, gIdx, gList, gSorted, wDctO, wPar3, wAppPop, wRaise0, wRaise1, wTry, wIsE, wAct, wFl, flD, gAnyX, gSumX, wCatF, wSSet, wLstR1, wLstR2, wTupR1, wFld])
    exact hk
  · unfold B__law_hand_2
    have e1 : List.map (fun d => match d with | .int i => .int ((if i < 0 then -i else i) % 1000000000000000000000000000000000000) | d => d) (List.map D.int (List.take 63 ns)) = ((ns.take 63).map fun i => (if i < 0 then -i else i) % 1000000000000000000000000000000000000).map D.int := by
      rw [List.map_map, List.map_map]; rfl
    simp only [wSeq, wAsg, wOwn, wF, wLc, wSkip, wBrk, wCnt, wRet, wRetF, wRetN, wDrop, wIfS, wPar, wFor, wWh, wV, wApp, wExt, wSetIx, wAug, wVal, wLook, wC, wOp, wTst, wChain, wAnd, wOr, wNot, wAndV, wOrV, wNotV, wIf, wNil, wCons, wTup, wLst, wCall, wCB, wIsT, wiR1, wiR2, wiSq, wiEn, wiZip, gN, gT1, gT2, gT3, gT4, gT5, gT6, gT7, wYes, gAdd, DV.gSub, gMul, gMod, gDiv, gPow, gLt, gLe, gGt, gGe, gCmp, gEq, gNe, gIs, gIsN, DV.isNon, gIn, gNotIn, gIx, gSlc, wSlc, wNoP, wPart, gLen, gAbs, gInt, gMin2, gMax2, gAll, gAny, gSum, gTuple, wNeg, wRev, wRevX, itemsOf, D.isTy, D.isHand, Sl.toD, big_0, big_1, big_2, big_3, big_4, big_5, big_6, big_7, big_8, big_9, big_10, big_11, big_12, draw_iff, own_ex, val_ex, wipeE, restE, Sl.keep, Option.getD_some, get_z, get_s, set_z, set_s, List.length_cons, List.length_nil, atI_0, atI_1, atI_2, atI_3, atI_4, ixN_5_0, ixN_5_1, ixN_5_2, ixN_5_3, ixN_5_4, D.bl.injEq, D.int.injEq, D.lst.injEq, D.tup.injEq, D.str.injEq, Sl.own.injEq, Sl.val.injEq, Option.some.injEq, exists_eq_left', exists_eq_left, exists_eq', exists_eq, or_true, true_or, or_false, false_or, CMul, CPow, natAbs_10, natAbs_2, Int.cast_ofNat_Int, Nat.reducePow, exists_and_left, exists_const, and_assoc, true_and, and_true, and_self, false_and, and_false, if_true, if_false, ite_true, ite_false, reduceCtorEq, decide_true, decide_false, decide_eq_true_eq, decide_eq_false_iff_not, Bool.not_true, Bool.not_false, Bool.false_eq_true, List.replicate_zero, List.replicate_succ, List.map_cons, List.map_nil, List.nil_append, List.cons_append, Nat.reduceSub, Nat.reduceAdd, Nat.reduceLeDiff, Nat.reduceLT, Int.reduceLT, Int.reduceLE, Int.reduceAdd, Int.reduceSub, Int.reduceMul, Int.reduceNeg, Int.reduceMod, Int.reduceDiv, Int.reducePow, Int.reduceToNat, okD_int, okD_bl, okD_lst, okD_tup, okD_non, okL_nil, okL_cons, okD_str, okL_int, eqD_int, eqD_bl, eqD_str, eqD_tup, eqD_lst, eqL_cons, eqL_nil, eqL_cn, eqL_nc, eqL_int, Bool.and_eq_true, Bool.or_eq_true, Bool.not_eq_true', Bool.and_false, Bool.false_and, Bool.or_false, Bool.false_or, Bool.or_true, Bool.true_or, Bool.and_true, Bool.true_and, Bool.and_self, wIsT2, wDct0, wLstOf, wRepF, wAsgH, DV.hN, hIx, hCons, hNil, hTup, wLM, gCnt, gIdx, gList, gSorted, wDctO, wPar3, wAppPop, wRaise0, wRaise1, wTry, wIsE, wAct, wFl, flD, gAnyX, gSumX, wCatF, wSSet, wLstR1, wLstR2, wTupR1, wFld, e1]
    refine (fun b => h b _ _ _ (fun x hx => ?_) (by omega) (by simp; omega))
    obtain ⟨i, _, rfl⟩ := List.mem_map.mp hx
    exact Int.emod_nonneg _ (by decide)

theorem hb_draw : ∀ (h : Addr) (cells : List Int) (p : Nat) (big st cnt m : Int), (∀ x ∈ cells, 0 ≤ x) → 0 ≤ big → 0 ≤ st → 0 ≤ cnt → st < 9223372036854775808 → 0 < m → m < 1180591620717411303424 → ∀ Q : Post, (∀ (k : Int) (p' : Nat) (big' st' cnt' : Int) (r : DV.Env), 0 ≤ k → k < m → 0 ≤ big' → 0 ≤ st' → 0 ≤ cnt' → st' < 9223372036854775808 → Q.rt (.int k) (.own h (handL cells p' big' st' cnt') :: r)) → B__law_draw (.own h (handL cells p big st cnt) :: .val (.int m) :: List.replicate (5 - 2) .no) Q := by
  intro h cells p bg st cnt m hc hb hs hn hs2 hm hm2 Q hq
  have last : ∀ (p : Nat) (bg st cnt : Int) (x3 x4 : Sl), 0 ≤ bg → 0 ≤ st → 0 ≤ cnt → st < 9223372036854775808 → ∀ x2 : Sl, B__law_draw_7 [.own h (handL cells p bg st cnt), .val (.int m), x2, x3, x4] Q := by
    intro p bg st cnt x3 x4 hb hs hn hs2 x2
    unfold B__law_draw_7 handL
    (try simp only [wSeq, wAsg, wOwn, wF, wLc, wSkip, wBrk, wCnt, wRet, wRetF, wRetN, wDrop, wIfS, wPar, wFor, wWh, wV, wApp, wExt, wSetIx, wAug, wVal, wLook, wC, wOp, wTst, wChain, wAnd, wOr, wNot, wAndV, wOrV, wNotV, wIf, wNil, wCons, wTup, wLst, wCall, wCB, wIsT, wiR1, wiR2, wiSq, wiEn, wiZip, gN, gT1, gT2, gT3, gT4, gT5, gT6, gT7, wYes, gAdd, DV.gSub, gMul, gMod, gDiv, gPow, gLt, gLe, gGt, gGe, gCmp, gEq, gNe, gIs, gIsN, DV.isNon, gIn, gNotIn, gIx, gSlc, wSlc, wNoP, wPart, gLen, gAbs, gInt, gMin2, gMax2, gAll, gAny, gSum, gTuple, wNeg, wRev, wRevX, itemsOf, D.isTy, D.isHand, Sl.toD, big_0, big_1, big_2, big_3, big_4, big_5, big_6, big_7, big_8, big_9, big_10, big_11, big_12, draw_iff, own_ex, val_ex, wipeE, restE, Sl.keep, Option.getD_some, get_z, get_s, set_z, set_s, List.length_cons, List.length_nil, atI_0, atI_1, atI_2, atI_3, atI_4, ixN_5_0, ixN_5_1, ixN_5_2, ixN_5_3, ixN_5_4, D.bl.injEq, D.int.injEq, D.lst.injEq, D.tup.injEq, D.str.injEq, Sl.own.injEq, Sl.val.injEq, Option.some.injEq, exists_eq_left', exists_eq_left, exists_eq', exists_eq, or_true, true_or, or_false, false_or, CMul, CPow, natAbs_10, natAbs_2, Int.cast_ofNat_Int, Nat.reducePow, exists_and_left, exists_const, and_assoc, true_and, and_true, and_self, false_and, and_false, if_true, if_false, ite_true, ite_false, reduceCtorEq, decide_true, decide_false, decide_eq_true_eq, decide_eq_false_iff_not, Bool.not_true, Bool.not_false, Bool.false_eq_true, List.replicate_zero, List.replicate_succ, List.map_cons, List.map_nil, List.nil_append, List.cons_append, Nat.reduceSub, Nat.reduceAdd, Nat.reduceLeDiff, Nat.reduceLT, Int.reduceLT, Int.reduceLE, Int.reduceAdd, Int.reduceSub, Int.reduceMul, Int.reduceNeg, Int.reduceMod, Int.reduceDiv, Int.reducePow, Int.reduceToNat, okD_int, okD_bl, okD_lst, okD_tup, okD_non, okL_nil, okL_cons, okD_str, okL_int, eqD_int, eqD_bl, eqD_str, eqD_tup, eqD_lst, eqL_cons, eqL_nil, eqL_cn, eqL_nc, eqL_int, Bool.and_eq_true, Bool.or_eq_true, Bool.not_eq_true', Bool.and_false, Bool.false_and, Bool.or_false, Bool.false_or, Bool.or_true, Bool.true_or, Bool.and_true, Bool.true_and, Bool.and_self, wIsT2, wDct0, wLstOf, wRepF, wAsgH, DV.hN, hIx, hCons, hNil, hTup, wLM, gCnt, gIdx, gList, gSorted, wDctO, wPar3, wAppPop, wRaise0, wRaise1, wTry, wIsE, wAct, wFl, flD, gAnyX, gSumX, wCatF, wSSet, wLstR1, wLstR2, wTupR1, wFld])
    split
    · unfold B__law_draw_8
      (try simp only [wSeq, wAsg, wOwn, wF, wLc, wSkip, wBrk, wCnt, wRet, wRetF, wRetN, wDrop, wIfS, wPar, wFor, wWh, wV, wApp, wExt, wSetIx, wAug, wVal, wLook, wC, wOp, wTst, wChain, wAnd, wOr, wNot, wAndV, wOrV, wNotV, wIf, wNil, wCons, wTup, wLst, wCall, wCB, wIsT, wiR1, wiR2, wiSq, wiEn, wiZip, gN, gT1, gT2, gT3, gT4, gT5, gT6, gT7, wYes, gAdd, DV.gSub, gMul, gMod, gDiv, gPow, gLt, gLe, gGt, gGe, gCmp, gEq, gNe, gIs, gIsN, DV.isNon, gIn, gNotIn, gIx, gSlc, wSlc, wNoP, wPart, gLen, gAbs, gInt, gMin2, gMax2, gAll, gAny, gSum, gTuple, wNeg, wRev, wRevX, itemsOf, D.isTy, D.isHand, Sl.toD, big_0, big_1, big_2, big_3, big_4, big_5, big_6, big_7, big_8, big_9, big_10, big_11, big_12, draw_iff, own_ex, val_ex, wipeE, restE, Sl.keep, Option.getD_some, get_z, get_s, set_z, set_s, List.length_cons, List.length_nil, atI_0, atI_1, atI_2, atI_3, atI_4, ixN_5_0, ixN_5_1, ixN_5_2, ixN_5_3, ixN_5_4, D.bl.injEq, D.int.injEq, D.lst.injEq, D.tup.injEq, D.str.injEq, Sl.own.injEq, Sl.val.injEq, Option.some.injEq, exists_eq_left', exists_eq_left, exists_eq', exists_eq, or_true, true_or, or_false, false_or, CMul, CPow, natAbs_10, natAbs_2, Int.cast_ofNat_Int, Nat.reducePow, exists_and_left, exists_const, and_assoc, true_and, and_true, and_self, false_and, and_false, if_true, if_false, ite_true, ite_false, reduceCtorEq, decide_true, decide_false, decide_eq_true_eq, decide_eq_false_iff_not, Bool.not_true, Bool.not_false, Bool.false_eq_true, List.replicate_zero, List.replicate_succ, List.map_cons, List.map_nil, List.nil_append, List.cons_append, Nat.reduceSub, Nat.reduceAdd, Nat.reduceLeDiff, Nat.reduceLT, Int.reduceLT, Int.reduceLE, Int.reduceAdd, Int.reduceSub, Int.reduceMul, Int.reduceNeg, Int.reduceMod, Int.reduceDiv, Int.reducePow, Int.reduceToNat, okD_int, okD_bl, okD_lst, okD_tup, okD_non, okL_nil, okL_cons, okD_str, okL_int, eqD_int, eqD_bl, eqD_str, eqD_tup, eqD_lst, eqL_cons, eqL_nil, eqL_cn, eqL_nc, eqL_int, Bool.and_eq_true, Bool.or_eq_true, Bool.not_eq_true', Bool.and_false, Bool.false_and, Bool.or_false, Bool.false_or, Bool.or_true, Bool.true_or, Bool.and_true, Bool.true_and, Bool.and_self, wIsT2, wDct0, wLstOf, wRepF, wAsgH, DV.hN, hIx, hCons, hNil, hTup, wLM, gCnt, gIdx, gList, gSorted, wDctO, wPar3, wAppPop, wRaise0, wRaise1, wTry, wIsE, wAct, wFl, flD, gAnyX, gSumX, wCatF, wSSet, wLstR1, wLstR2, wTupR1, wFld])
      refine ⟨hm, ?_⟩
      unfold B__law_draw_9
      (try simp only [wSeq, wAsg, wOwn, wF, wLc, wSkip, wBrk, wCnt, wRet, wRetF, wRetN, wDrop, wIfS, wPar, wFor, wWh, wV, wApp, wExt, wSetIx, wAug, wVal, wLook, wC, wOp, wTst, wChain, wAnd, wOr, wNot, wAndV, wOrV, wNotV, wIf, wNil, wCons, wTup, wLst, wCall, wCB, wIsT, wiR1, wiR2, wiSq, wiEn, wiZip, gN, gT1, gT2, gT3, gT4, gT5, gT6, gT7, wYes, gAdd, DV.gSub, gMul, gMod, gDiv, gPow, gLt, gLe, gGt, gGe, gCmp, gEq, gNe, gIs, gIsN, DV.isNon, gIn, gNotIn, gIx, gSlc, wSlc, wNoP, wPart, gLen, gAbs, gInt, gMin2, gMax2, gAll, gAny, gSum, gTuple, wNeg, wRev, wRevX, itemsOf, D.isTy, D.isHand, Sl.toD, big_0, big_1, big_2, big_3, big_4, big_5, big_6, big_7, big_8, big_9, big_10, big_11, big_12, draw_iff, own_ex, val_ex, wipeE, restE, Sl.keep, Option.getD_some, get_z, get_s, set_z, set_s, List.length_cons, List.length_nil, atI_0, atI_1, atI_2, atI_3, atI_4, ixN_5_0, ixN_5_1, ixN_5_2, ixN_5_3, ixN_5_4, D.bl.injEq, D.int.injEq, D.lst.injEq, D.tup.injEq, D.str.injEq, Sl.own.injEq, Sl.val.injEq, Option.some.injEq, exists_eq_left', exists_eq_left, exists_eq', exists_eq, or_true, true_or, or_false, false_or, CMul, CPow, natAbs_10, natAbs_2, Int.cast_ofNat_Int, Nat.reducePow, exists_and_left, exists_const, and_assoc, true_and, and_true, and_self, false_and, and_false, if_true, if_false, ite_true, ite_false, reduceCtorEq, decide_true, decide_false, decide_eq_true_eq, decide_eq_false_iff_not, Bool.not_true, Bool.not_false, Bool.false_eq_true, List.replicate_zero, List.replicate_succ, List.map_cons, List.map_nil, List.nil_append, List.cons_append, Nat.reduceSub, Nat.reduceAdd, Nat.reduceLeDiff, Nat.reduceLT, Int.reduceLT, Int.reduceLE, Int.reduceAdd, Int.reduceSub, Int.reduceMul, Int.reduceNeg, Int.reduceMod, Int.reduceDiv, Int.reducePow, Int.reduceToNat, okD_int, okD_bl, okD_lst, okD_tup, okD_non, okL_nil, okL_cons, okD_str, okL_int, eqD_int, eqD_bl, eqD_str, eqD_tup, eqD_lst, eqL_cons, eqL_nil, eqL_cn, eqL_nc, eqL_int, Bool.and_eq_true, Bool.or_eq_true, Bool.not_eq_true', Bool.and_false, Bool.false_and, Bool.or_false, Bool.false_or, Bool.or_true, Bool.true_or, Bool.and_true, Bool.true_and, Bool.and_self, wIsT2, wDct0, wLstOf, wRepF, wAsgH, DV.hN, hIx, hCons, hNil, hTup, wLM, gCnt, gIdx, gList, gSorted, wDctO, wPar3, wAppPop, wRaise0, wRaise1, wTry, wIsE, wAct, wFl, flD, gAnyX, gSumX, wCatF, wSSet, wLstR1, wLstR2, wTupR1, wFld])
      refine ⟨hm, hm2, ?_⟩
      unfold B__law_draw_10
      (try simp only [wSeq, wAsg, wOwn, wF, wLc, wSkip, wBrk, wCnt, wRet, wRetF, wRetN, wDrop, wIfS, wPar, wFor, wWh, wV, wApp, wExt, wSetIx, wAug, wVal, wLook, wC, wOp, wTst, wChain, wAnd, wOr, wNot, wAndV, wOrV, wNotV, wIf, wNil, wCons, wTup, wLst, wCall, wCB, wIsT, wiR1, wiR2, wiSq, wiEn, wiZip, gN, gT1, gT2, gT3, gT4, gT5, gT6, gT7, wYes, gAdd, DV.gSub, gMul, gMod, gDiv, gPow, gLt, gLe, gGt, gGe, gCmp, gEq, gNe, gIs, gIsN, DV.isNon, gIn, gNotIn, gIx, gSlc, wSlc, wNoP, wPart, gLen, gAbs, gInt, gMin2, gMax2, gAll, gAny, gSum, gTuple, wNeg, wRev, wRevX, itemsOf, D.isTy, D.isHand, Sl.toD, big_0, big_1, big_2, big_3, big_4, big_5, big_6, big_7, big_8, big_9, big_10, big_11, big_12, draw_iff, own_ex, val_ex, wipeE, restE, Sl.keep, Option.getD_some, get_z, get_s, set_z, set_s, List.length_cons, List.length_nil, atI_0, atI_1, atI_2, atI_3, atI_4, ixN_5_0, ixN_5_1, ixN_5_2, ixN_5_3, ixN_5_4, D.bl.injEq, D.int.injEq, D.lst.injEq, D.tup.injEq, D.str.injEq, Sl.own.injEq, Sl.val.injEq, Option.some.injEq, exists_eq_left', exists_eq_left, exists_eq', exists_eq, or_true, true_or, or_false, false_or, CMul, CPow, natAbs_10, natAbs_2, Int.cast_ofNat_Int, Nat.reducePow, exists_and_left, exists_const, and_assoc, true_and, and_true, and_self, false_and, and_false, if_true, if_false, ite_true, ite_false, reduceCtorEq, decide_true, decide_false, decide_eq_true_eq, decide_eq_false_iff_not, Bool.not_true, Bool.not_false, Bool.false_eq_true, List.replicate_zero, List.replicate_succ, List.map_cons, List.map_nil, List.nil_append, List.cons_append, Nat.reduceSub, Nat.reduceAdd, Nat.reduceLeDiff, Nat.reduceLT, Int.reduceLT, Int.reduceLE, Int.reduceAdd, Int.reduceSub, Int.reduceMul, Int.reduceNeg, Int.reduceMod, Int.reduceDiv, Int.reducePow, Int.reduceToNat, okD_int, okD_bl, okD_lst, okD_tup, okD_non, okL_nil, okL_cons, okD_str, okL_int, eqD_int, eqD_bl, eqD_str, eqD_tup, eqD_lst, eqL_cons, eqL_nil, eqL_cn, eqL_nc, eqL_int, Bool.and_eq_true, Bool.or_eq_true, Bool.not_eq_true', Bool.and_false, Bool.false_and, Bool.or_false, Bool.false_or, Bool.or_true, Bool.true_or, Bool.and_true, Bool.true_and, Bool.and_self, wIsT2, wDct0, wLstOf, wRepF, wAsgH, DV.hN, hIx, hCons, hNil, hTup, wLM, gCnt, gIdx, gList, gSorted, wDctO, wPar3, wAppPop, wRaise0, wRaise1, wTry, wIsE, wAct, wFl, flD, gAnyX, gSumX, wCatF, wSSet, wLstR1, wLstR2, wTupR1, wFld])
      exact hq _ p _ st cnt _ (Int.emod_nonneg _ (by omega)) (Int.emod_lt_of_pos _ hm) (Int.ediv_nonneg hb (by omega)) hs hn hs2
    · unfold B__law_draw_11
      (try simp only [wSeq, wAsg, wOwn, wF, wLc, wSkip, wBrk, wCnt, wRet, wRetF, wRetN, wDrop, wIfS, wPar, wFor, wWh, wV, wApp, wExt, wSetIx, wAug, wVal, wLook, wC, wOp, wTst, wChain, wAnd, wOr, wNot, wAndV, wOrV, wNotV, wIf, wNil, wCons, wTup, wLst, wCall, wCB, wIsT, wiR1, wiR2, wiSq, wiEn, wiZip, gN, gT1, gT2, gT3, gT4, gT5, gT6, gT7, wYes, gAdd, DV.gSub, gMul, gMod, gDiv, gPow, gLt, gLe, gGt, gGe, gCmp, gEq, gNe, gIs, gIsN, DV.isNon, gIn, gNotIn, gIx, gSlc, wSlc, wNoP, wPart, gLen, gAbs, gInt, gMin2, gMax2, gAll, gAny, gSum, gTuple, wNeg, wRev, wRevX, itemsOf, D.isTy, D.isHand, Sl.toD, big_0, big_1, big_2, big_3, big_4, big_5, big_6, big_7, big_8, big_9, big_10, big_11, big_12, draw_iff, own_ex, val_ex, wipeE, restE, Sl.keep, Option.getD_some, get_z, get_s, set_z, set_s, List.length_cons, List.length_nil, atI_0, atI_1, atI_2, atI_3, atI_4, ixN_5_0, ixN_5_1, ixN_5_2, ixN_5_3, ixN_5_4, D.bl.injEq, D.int.injEq, D.lst.injEq, D.tup.injEq, D.str.injEq, Sl.own.injEq, Sl.val.injEq, Option.some.injEq, exists_eq_left', exists_eq_left, exists_eq', exists_eq, or_true, true_or, or_false, false_or, CMul, CPow, natAbs_10, natAbs_2, Int.cast_ofNat_Int, Nat.reducePow, exists_and_left, exists_const, and_assoc, true_and, and_true, and_self, false_and, and_false, if_true, if_false, ite_true, ite_false, reduceCtorEq, decide_true, decide_false, decide_eq_true_eq, decide_eq_false_iff_not, Bool.not_true, Bool.not_false, Bool.false_eq_true, List.replicate_zero, List.replicate_succ, List.map_cons, List.map_nil, List.nil_append, List.cons_append, Nat.reduceSub, Nat.reduceAdd, Nat.reduceLeDiff, Nat.reduceLT, Int.reduceLT, Int.reduceLE, Int.reduceAdd, Int.reduceSub, Int.reduceMul, Int.reduceNeg, Int.reduceMod, Int.reduceDiv, Int.reducePow, Int.reduceToNat, okD_int, okD_bl, okD_lst, okD_tup, okD_non, okL_nil, okL_cons, okD_str, okL_int, eqD_int, eqD_bl, eqD_str, eqD_tup, eqD_lst, eqL_cons, eqL_nil, eqL_cn, eqL_nc, eqL_int, Bool.and_eq_true, Bool.or_eq_true, Bool.not_eq_true', Bool.and_false, Bool.false_and, Bool.or_false, Bool.false_or, Bool.or_true, Bool.true_or, Bool.and_true, Bool.true_and, Bool.and_self, wIsT2, wDct0, wLstOf, wRepF, wAsgH, DV.hN, hIx, hCons, hNil, hTup, wLM, gCnt, gIdx, gList, gSorted, wDctO, wPar3, wAppPop, wRaise0, wRaise1, wTry, wIsE, wAct, wFl, flD, gAnyX, gSumX, wCatF, wSSet, wLstR1, wLstR2, wTupR1, wFld])
      unfold B__law_draw_12
      (try simp only [wSeq, wAsg, wOwn, wF, wLc, wSkip, wBrk, wCnt, wRet, wRetF, wRetN, wDrop, wIfS, wPar, wFor, wWh, wV, wApp, wExt, wSetIx, wAug, wVal, wLook, wC, wOp, wTst, wChain, wAnd, wOr, wNot, wAndV, wOrV, wNotV, wIf, wNil, wCons, wTup, wLst, wCall, wCB, wIsT, wiR1, wiR2, wiSq, wiEn, wiZip, gN, gT1, gT2, gT3, gT4, gT5, gT6, gT7, wYes, gAdd, DV.gSub, gMul, gMod, gDiv, gPow, gLt, gLe, gGt, gGe, gCmp, gEq, gNe, gIs, gIsN, DV.isNon, gIn, gNotIn, gIx, gSlc, wSlc, wNoP, wPart, gLen, gAbs, gInt, gMin2, gMax2, gAll, gAny, gSum, gTuple, wNeg, wRev, wRevX, itemsOf, D.isTy, D.isHand, Sl.toD, big_0, big_1, big_2, big_3, big_4, big_5, big_6, big_7, big_8, big_9, big_10, big_11, big_12, draw_iff, own_ex, val_ex, wipeE, restE, Sl.keep, Option.getD_some, get_z, get_s, set_z, set_s, List.length_cons, List.length_nil, atI_0, atI_1, atI_2, atI_3, atI_4, ixN_5_0, ixN_5_1, ixN_5_2, ixN_5_3, ixN_5_4, D.bl.injEq, D.int.injEq, D.lst.injEq, D.tup.injEq, D.str.injEq, Sl.own.injEq, Sl.val.injEq, Option.some.injEq, exists_eq_left', exists_eq_left, exists_eq', exists_eq, or_true, true_or, or_false, false_or, CMul, CPow, natAbs_10, natAbs_2, Int.cast_ofNat_Int, Nat.reducePow, exists_and_left, exists_const, and_assoc, true_and, and_true, and_self, false_and, and_false, if_true, if_false, ite_true, ite_false, reduceCtorEq, decide_true, decide_false, decide_eq_true_eq, decide_eq_false_iff_not, Bool.not_true, Bool.not_false, Bool.false_eq_true, List.replicate_zero, List.replicate_succ, List.map_cons, List.map_nil, List.nil_append, List.cons_append, Nat.reduceSub, Nat.reduceAdd, Nat.reduceLeDiff, Nat.reduceLT, Int.reduceLT, Int.reduceLE, Int.reduceAdd, Int.reduceSub, Int.reduceMul, Int.reduceNeg, Int.reduceMod, Int.reduceDiv, Int.reducePow, Int.reduceToNat, okD_int, okD_bl, okD_lst, okD_tup, okD_non, okL_nil, okL_cons, okD_str, okL_int, eqD_int, eqD_bl, eqD_str, eqD_tup, eqD_lst, eqL_cons, eqL_nil, eqL_cn, eqL_nc, eqL_int, Bool.and_eq_true, Bool.or_eq_true, Bool.not_eq_true', Bool.and_false, Bool.false_and, Bool.or_false, Bool.false_or, Bool.or_true, Bool.true_or, Bool.and_true, Bool.true_and, Bool.and_self, wIsT2, wDct0, wLstOf, wRepF, wAsgH, DV.hN, hIx, hCons, hNil, hTup, wLM, gCnt, gIdx, gList, gSorted, wDctO, wPar3, wAppPop, wRaise0, wRaise1, wTry, wIsE, wAct, wFl, flD, gAnyX, gSumX, wCatF, wSSet, wLstR1, wLstR2, wTupR1, wFld])
      have k1 : 0 ≤ (st + 7919 * (cnt + 1)) * 40692 % 2147483647 := Int.emod_nonneg _ (by decide)
      have k2 : (st + 7919 * (cnt + 1)) * 40692 % 2147483647 < 2147483647 := Int.emod_lt_of_pos _ (by decide)
      unfold B__law_draw_13
      (try simp only [wSeq, wAsg, wOwn, wF, wLc, wSkip, wBrk, wCnt, wRet, wRetF, wRetN, wDrop, wIfS, wPar, wFor, wWh, wV, wApp, wExt, wSetIx, wAug, wVal, wLook, wC, wOp, wTst, wChain, wAnd, wOr, wNot, wAndV, wOrV, wNotV, wIf, wNil, wCons, wTup, wLst, wCall, wCB, wIsT, wiR1, wiR2, wiSq, wiEn, wiZip, gN, gT1, gT2, gT3, gT4, gT5, gT6, gT7, wYes, gAdd, DV.gSub, gMul, gMod, gDiv, gPow, gLt, gLe, gGt, gGe, gCmp, gEq, gNe, gIs, gIsN, DV.isNon, gIn, gNotIn, gIx, gSlc, wSlc, wNoP, wPart, gLen, gAbs, gInt, gMin2, gMax2, gAll, gAny, gSum, gTuple, wNeg, wRev, wRevX, itemsOf, D.isTy, D.isHand, Sl.toD, big_0, big_1, big_2, big_3, big_4, big_5, big_6, big_7, big_8, big_9, big_10, big_11, big_12, draw_iff, own_ex, val_ex, wipeE, restE, Sl.keep, Option.getD_some, get_z, get_s, set_z, set_s, List.length_cons, List.length_nil, atI_0, atI_1, atI_2, atI_3, atI_4, ixN_5_0, ixN_5_1, ixN_5_2, ixN_5_3, ixN_5_4, D.bl.injEq, D.int.injEq, D.lst.injEq, D.tup.injEq, D.str.injEq, Sl.own.injEq, Sl.val.injEq, Option.some.injEq, exists_eq_left', exists_eq_left, exists_eq', exists_eq, or_true, true_or, or_false, false_or, CMul, CPow, natAbs_10, natAbs_2, Int.cast_ofNat_Int, Nat.reducePow, exists_and_left, exists_const, and_assoc, true_and, and_true, and_self, false_and, and_false, if_true, if_false, ite_true, ite_false, reduceCtorEq, decide_true, decide_false, decide_eq_true_eq, decide_eq_false_iff_not, Bool.not_true, Bool.not_false, Bool.false_eq_true, List.replicate_zero, List.replicate_succ, List.map_cons, List.map_nil, List.nil_append, List.cons_append, Nat.reduceSub, Nat.reduceAdd, Nat.reduceLeDiff, Nat.reduceLT, Int.reduceLT, Int.reduceLE, Int.reduceAdd, Int.reduceSub, Int.reduceMul, Int.reduceNeg, Int.reduceMod, Int.reduceDiv, Int.reducePow, Int.reduceToNat, okD_int, okD_bl, okD_lst, okD_tup, okD_non, okL_nil, okL_cons, okD_str, okL_int, eqD_int, eqD_bl, eqD_str, eqD_tup, eqD_lst, eqL_cons, eqL_nil, eqL_cn, eqL_nc, eqL_int, Bool.and_eq_true, Bool.or_eq_true, Bool.not_eq_true', Bool.and_false, Bool.false_and, Bool.or_false, Bool.false_or, Bool.or_true, Bool.true_or, Bool.and_true, Bool.true_and, Bool.and_self, wIsT2, wDct0, wLstOf, wRepF, wAsgH, DV.hN, hIx, hCons, hNil, hTup, wLM, gCnt, gIdx, gList, gSorted, wDctO, wPar3, wAppPop, wRaise0, wRaise1, wTry, wIsE, wAct, wFl, flD, gAnyX, gSumX, wCatF, wSSet, wLstR1, wLstR2, wTupR1, wFld])
      refine ⟨.inl ⟨by omega, by omega⟩, ?_⟩
      generalize (st + 7919 * (cnt + 1)) * 40692 % 2147483647 = a at *
      have k3 : 0 ≤ a * (a / 1009 + 69621) % 2147483647 := Int.emod_nonneg _ (by decide)
      have k4 : a * (a / 1009 + 69621) % 2147483647 < 2147483647 := Int.emod_lt_of_pos _ (by decide)
      unfold B__law_draw_14
      (try simp only [wSeq, wAsg, wOwn, wF, wLc, wSkip, wBrk, wCnt, wRet, wRetF, wRetN, wDrop, wIfS, wPar, wFor, wWh, wV, wApp, wExt, wSetIx, wAug, wVal, wLook, wC, wOp, wTst, wChain, wAnd, wOr, wNot, wAndV, wOrV, wNotV, wIf, wNil, wCons, wTup, wLst, wCall, wCB, wIsT, wiR1, wiR2, wiSq, wiEn, wiZip, gN, gT1, gT2, gT3, gT4, gT5, gT6, gT7, wYes, gAdd, DV.gSub, gMul, gMod, gDiv, gPow, gLt, gLe, gGt, gGe, gCmp, gEq, gNe, gIs, gIsN, DV.isNon, gIn, gNotIn, gIx, gSlc, wSlc, wNoP, wPart, gLen, gAbs, gInt, gMin2, gMax2, gAll, gAny, gSum, gTuple, wNeg, wRev, wRevX, itemsOf, D.isTy, D.isHand, Sl.toD, big_0, big_1, big_2, big_3, big_4, big_5, big_6, big_7, big_8, big_9, big_10, big_11, big_12, draw_iff, own_ex, val_ex, wipeE, restE, Sl.keep, Option.getD_some, get_z, get_s, set_z, set_s, List.length_cons, List.length_nil, atI_0, atI_1, atI_2, atI_3, atI_4, ixN_5_0, ixN_5_1, ixN_5_2, ixN_5_3, ixN_5_4, D.bl.injEq, D.int.injEq, D.lst.injEq, D.tup.injEq, D.str.injEq, Sl.own.injEq, Sl.val.injEq, Option.some.injEq, exists_eq_left', exists_eq_left, exists_eq', exists_eq, or_true, true_or, or_false, false_or, CMul, CPow, natAbs_10, natAbs_2, Int.cast_ofNat_Int, Nat.reducePow, exists_and_left, exists_const, and_assoc, true_and, and_true, and_self, false_and, and_false, if_true, if_false, ite_true, ite_false, reduceCtorEq, decide_true, decide_false, decide_eq_true_eq, decide_eq_false_iff_not, Bool.not_true, Bool.not_false, Bool.false_eq_true, List.replicate_zero, List.replicate_succ, List.map_cons, List.map_nil, List.nil_append, List.cons_append, Nat.reduceSub, Nat.reduceAdd, Nat.reduceLeDiff, Nat.reduceLT, Int.reduceLT, Int.reduceLE, Int.reduceAdd, Int.reduceSub, Int.reduceMul, Int.reduceNeg, Int.reduceMod, Int.reduceDiv, Int.reducePow, Int.reduceToNat, okD_int, okD_bl, okD_lst, okD_tup, okD_non, okL_nil, okL_cons, okD_str, okL_int, eqD_int, eqD_bl, eqD_str, eqD_tup, eqD_lst, eqL_cons, eqL_nil, eqL_cn, eqL_nc, eqL_int, Bool.and_eq_true, Bool.or_eq_true, Bool.not_eq_true', Bool.and_false, Bool.false_and, Bool.or_false, Bool.false_or, Bool.or_true, Bool.true_or, Bool.and_true, Bool.true_and, Bool.and_self, wIsT2, wDct0, wLstOf, wRepF, wAsgH, DV.hN, hIx, hCons, hNil, hTup, wLM, gCnt, gIdx, gList, gSorted, wDctO, wPar3, wAppPop, wRaise0, wRaise1, wTry, wIsE, wAct, wFl, flD, gAnyX, gSumX, wCatF, wSSet, wLstR1, wLstR2, wTupR1, wFld])
      refine ⟨.inl ⟨by omega, by omega⟩, ?_⟩
      generalize a * (a / 1009 + 69621) % 2147483647 = b at *
      unfold B__law_draw_15
      (try simp only [wSeq, wAsg, wOwn, wF, wLc, wSkip, wBrk, wCnt, wRet, wRetF, wRetN, wDrop, wIfS, wPar, wFor, wWh, wV, wApp, wExt, wSetIx, wAug, wVal, wLook, wC, wOp, wTst, wChain, wAnd, wOr, wNot, wAndV, wOrV, wNotV, wIf, wNil, wCons, wTup, wLst, wCall, wCB, wIsT, wiR1, wiR2, wiSq, wiEn, wiZip, gN, gT1, gT2, gT3, gT4, gT5, gT6, gT7, wYes, gAdd, DV.gSub, gMul, gMod, gDiv, gPow, gLt, gLe, gGt, gGe, gCmp, gEq, gNe, gIs, gIsN, DV.isNon, gIn, gNotIn, gIx, gSlc, wSlc, wNoP, wPart, gLen, gAbs, gInt, gMin2, gMax2, gAll, gAny, gSum, gTuple, wNeg, wRev, wRevX, itemsOf, D.isTy, D.isHand, Sl.toD, big_0, big_1, big_2, big_3, big_4, big_5, big_6, big_7, big_8, big_9, big_10, big_11, big_12, draw_iff, own_ex, val_ex, wipeE, restE, Sl.keep, Option.getD_some, get_z, get_s, set_z, set_s, List.length_cons, List.length_nil, atI_0, atI_1, atI_2, atI_3, atI_4, ixN_5_0, ixN_5_1, ixN_5_2, ixN_5_3, ixN_5_4, D.bl.injEq, D.int.injEq, D.lst.injEq, D.tup.injEq, D.str.injEq, Sl.own.injEq, Sl.val.injEq, Option.some.injEq, exists_eq_left', exists_eq_left, exists_eq', exists_eq, or_true, true_or, or_false, false_or, CMul, CPow, natAbs_10, natAbs_2, Int.cast_ofNat_Int, Nat.reducePow, exists_and_left, exists_const, and_assoc, true_and, and_true, and_self, false_and, and_false, if_true, if_false, ite_true, ite_false, reduceCtorEq, decide_true, decide_false, decide_eq_true_eq, decide_eq_false_iff_not, Bool.not_true, Bool.not_false, Bool.false_eq_true, List.replicate_zero, List.replicate_succ, List.map_cons, List.map_nil, List.nil_append, List.cons_append, Nat.reduceSub, Nat.reduceAdd, Nat.reduceLeDiff, Nat.reduceLT, Int.reduceLT, Int.reduceLE, Int.reduceAdd, Int.reduceSub, Int.reduceMul, Int.reduceNeg, Int.reduceMod, Int.reduceDiv, Int.reducePow, Int.reduceToNat, okD_int, okD_bl, okD_lst, okD_tup, okD_non, okL_nil, okL_cons, okD_str, okL_int, eqD_int, eqD_bl, eqD_str, eqD_tup, eqD_lst, eqL_cons, eqL_nil, eqL_cn, eqL_nc, eqL_int, Bool.and_eq_true, Bool.or_eq_true, Bool.not_eq_true', Bool.and_false, Bool.false_and, Bool.or_false, Bool.false_or, Bool.or_true, Bool.true_or, Bool.and_true, Bool.true_and, Bool.and_self, wIsT2, wDct0, wLstOf, wRepF, wAsgH, DV.hN, hIx, hCons, hNil, hTup, wLM, gCnt, gIdx, gList, gSorted, wDctO, wPar3, wAppPop, wRaise0, wRaise1, wTry, wIsE, wAct, wFl, flD, gAnyX, gSumX, wCatF, wSSet, wLstR1, wLstR2, wTupR1, wFld])
      refine ⟨hm, ?_⟩
      exact hq _ p _ st _ _ (Int.emod_nonneg _ (by omega)) (Int.emod_lt_of_pos _ hm) hb hs (by omega) hs2
  unfold B__law_draw handL
  (try simp only [wSeq, wAsg, wOwn, wF, wLc, wSkip, wBrk, wCnt, wRet, wRetF, wRetN, wDrop, wIfS, wPar, wFor, wWh, wV, wApp, wExt, wSetIx, wAug, wVal, wLook, wC, wOp, wTst, wChain, wAnd, wOr, wNot, wAndV, wOrV, wNotV, wIf, wNil, wCons, wTup, wLst, wCall, wCB, wIsT, wiR1, wiR2, wiSq, wiEn, wiZip, gN, gT1, gT2, gT3, gT4, gT5, gT6, gT7, wYes, gAdd, DV.gSub, gMul, gMod, gDiv, gPow, gLt, gLe, gGt, gGe, gCmp, gEq, gNe, gIs, gIsN, DV.isNon, gIn, gNotIn, gIx, gSlc, wSlc, wNoP, wPart, gLen, gAbs, gInt, gMin2, gMax2, gAll, gAny, gSum, gTuple, wNeg, wRev, wRevX, itemsOf, D.isTy, D.isHand, Sl.toD, big_0, big_1, big_2, big_3, big_4, big_5, big_6, big_7, big_8, big_9, big_10, big_11, big_12, draw_iff, own_ex, val_ex, wipeE, restE, Sl.keep, Option.getD_some, get_z, get_s, set_z, set_s, List.length_cons, List.length_nil, atI_0, atI_1, atI_2, atI_3, atI_4, ixN_5_0, ixN_5_1, ixN_5_2, ixN_5_3, ixN_5_4, D.bl.injEq, D.int.injEq, D.lst.injEq, D.tup.injEq, D.str.injEq, Sl.own.injEq, Sl.val.injEq, Option.some.injEq, exists_eq_left', exists_eq_left, exists_eq', exists_eq, or_true, true_or, or_false, false_or, CMul, CPow, natAbs_10, natAbs_2, Int.cast_ofNat_Int, Nat.reducePow, exists_and_left, exists_const, and_assoc, true_and, and_true, and_self, false_and, and_false, if_true, if_false, ite_true, ite_false, reduceCtorEq, decide_true, decide_false, decide_eq_true_eq, decide_eq_false_iff_not, Bool.not_true, Bool.not_false, Bool.false_eq_true, List.replicate_zero, List.replicate_succ, List.map_cons, List.map_nil, List.nil_append, List.cons_append, Nat.reduceSub, Nat.reduceAdd, Nat.reduceLeDiff, Nat.reduceLT, Int.reduceLT, Int.reduceLE, Int.reduceAdd, Int.reduceSub, Int.reduceMul, Int.reduceNeg, Int.reduceMod, Int.reduceDiv, Int.reducePow, Int.reduceToNat, okD_int, okD_bl, okD_lst, okD_tup, okD_non, okL_nil, okL_cons, okD_str, okL_int, eqD_int, eqD_bl, eqD_str, eqD_tup, eqD_lst, eqL_cons, eqL_nil, eqL_cn, eqL_nc, eqL_int, Bool.and_eq_true, Bool.or_eq_true, Bool.not_eq_true', Bool.and_false, Bool.false_and, Bool.or_false, Bool.false_or, Bool.or_true, Bool.true_or, Bool.and_true, Bool.true_and, Bool.and_self, wIsT2, wDct0, wLstOf, wRepF, wAsgH, DV.hN, hIx, hCons, hNil, hTup, wLM, gCnt, gIdx, gList, gSorted, wDctO, wPar3, wAppPop, wRaise0, wRaise1, wTry, wIsE, wAct, wFl, flD, gAnyX, gSumX, wCatF, wSSet, wLstR1, wLstR2, wTupR1, wFld])
  split
  · rename_i hbz
    have hz : bg = 0 := by simpa [eqD_int] using hbz
    subst hz
    split
    · rename_i hp
      have hp2 : p < cells.length := by simpa using hp
      unfold B__law_draw_2
      have e1 : atI (List.map D.int cells) (p : Int) = some (.int cells[p]) := by
        rw [atI_nat rfl, List.getElem?_map, List.getElem?_eq_getElem hp2]; rfl
      have hcp := hc _ (List.getElem_mem hp2)
      generalize cells[p] = c at *
      simp only [wSeq, wAsg, wOwn, wF, wLc, wSkip, wBrk, wCnt, wRet, wRetF, wRetN, wDrop, wIfS, wPar, wFor, wWh, wV, wApp, wExt, wSetIx, wAug, wVal, wLook, wC, wOp, wTst, wChain, wAnd, wOr, wNot, wAndV, wOrV, wNotV, wIf, wNil, wCons, wTup, wLst, wCall, wCB, wIsT, wiR1, wiR2, wiSq, wiEn, wiZip, gN, gT1, gT2, gT3, gT4, gT5, gT6, gT7, wYes, gAdd, DV.gSub, gMul, gMod, gDiv, gPow, gLt, gLe, gGt, gGe, gCmp, gEq, gNe, gIs, gIsN, DV.isNon, gIn, gNotIn, gIx, gSlc, wSlc, wNoP, wPart, gLen, gAbs, gInt, gMin2, gMax2, gAll, gAny, gSum, gTuple, wNeg, wRev, wRevX, itemsOf, D.isTy, D.isHand, Sl.toD, big_0, big_1, big_2, big_3, big_4, big_5, big_6, big_7, big_8, big_9, big_10, big_11, big_12, draw_iff, own_ex, val_ex, wipeE, restE, Sl.keep, Option.getD_some, get_z, get_s, set_z, set_s, List.length_cons, List.length_nil, atI_0, atI_1, atI_2, atI_3, atI_4, ixN_5_0, ixN_5_1, ixN_5_2, ixN_5_3, ixN_5_4, D.bl.injEq, D.int.injEq, D.lst.injEq, D.tup.injEq, D.str.injEq, Sl.own.injEq, Sl.val.injEq, Option.some.injEq, exists_eq_left', exists_eq_left, exists_eq', exists_eq, or_true, true_or, or_false, false_or, CMul, CPow, natAbs_10, natAbs_2, Int.cast_ofNat_Int, Nat.reducePow, exists_and_left, exists_const, and_assoc, true_and, and_true, and_self, false_and, and_false, if_true, if_false, ite_true, ite_false, reduceCtorEq, decide_true, decide_false, decide_eq_true_eq, decide_eq_false_iff_not, Bool.not_true, Bool.not_false, Bool.false_eq_true, List.replicate_zero, List.replicate_succ, List.map_cons, List.map_nil, List.nil_append, List.cons_append, Nat.reduceSub, Nat.reduceAdd, Nat.reduceLeDiff, Nat.reduceLT, Int.reduceLT, Int.reduceLE, Int.reduceAdd, Int.reduceSub, Int.reduceMul, Int.reduceNeg, Int.reduceMod, Int.reduceDiv, Int.reducePow, Int.reduceToNat, okD_int, okD_bl, okD_lst, okD_tup, okD_non, okL_nil, okL_cons, okD_str, okL_int, eqD_int, eqD_bl, eqD_str, eqD_tup, eqD_lst, eqL_cons, eqL_nil, eqL_cn, eqL_nc, eqL_int, Bool.and_eq_true, Bool.or_eq_true, Bool.not_eq_true', Bool.and_false, Bool.false_and, Bool.or_false, Bool.false_or, Bool.or_true, Bool.true_or, Bool.and_true, Bool.true_and, Bool.and_self, wIsT2, wDct0, wLstOf, wRepF, wAsgH, DV.hN, hIx, hCons, hNil, hTup, wLM, gCnt, gIdx, gList, gSorted, wDctO, wPar3, wAppPop, wRaise0, wRaise1, wTry, wIsE, wAct, wFl, flD, gAnyX, gSumX, wCatF, wSSet, wLstR1, wLstR2, wTupR1, wFld, e1]
      unfold B__law_draw_3
      (try simp only [wSeq, wAsg, wOwn, wF, wLc, wSkip, wBrk, wCnt, wRet, wRetF, wRetN, wDrop, wIfS, wPar, wFor, wWh, wV, wApp, wExt, wSetIx, wAug, wVal, wLook, wC, wOp, wTst, wChain, wAnd, wOr, wNot, wAndV, wOrV, wNotV, wIf, wNil, wCons, wTup, wLst, wCall, wCB, wIsT, wiR1, wiR2, wiSq, wiEn, wiZip, gN, gT1, gT2, gT3, gT4, gT5, gT6, gT7, wYes, gAdd, DV.gSub, gMul, gMod, gDiv, gPow, gLt, gLe, gGt, gGe, gCmp, gEq, gNe, gIs, gIsN, DV.isNon, gIn, gNotIn, gIx, gSlc, wSlc, wNoP, wPart, gLen, gAbs, gInt, gMin2, gMax2, gAll, gAny, gSum, gTuple, wNeg, wRev, wRevX, itemsOf, D.isTy, D.isHand, Sl.toD, big_0, big_1, big_2, big_3, big_4, big_5, big_6, big_7, big_8, big_9, big_10, big_11, big_12, draw_iff, own_ex, val_ex, wipeE, restE, Sl.keep, Option.getD_some, get_z, get_s, set_z, set_s, List.length_cons, List.length_nil, atI_0, atI_1, atI_2, atI_3, atI_4, ixN_5_0, ixN_5_1, ixN_5_2, ixN_5_3, ixN_5_4, D.bl.injEq, D.int.injEq, D.lst.injEq, D.tup.injEq, D.str.injEq, Sl.own.injEq, Sl.val.injEq, Option.some.injEq, exists_eq_left', exists_eq_left, exists_eq', exists_eq, or_true, true_or, or_false, false_or, CMul, CPow, natAbs_10, natAbs_2, Int.cast_ofNat_Int, Nat.reducePow, exists_and_left, exists_const, and_assoc, true_and, and_true, and_self, false_and, and_false, if_true, if_false, ite_true, ite_false, reduceCtorEq, decide_true, decide_false, decide_eq_true_eq, decide_eq_false_iff_not, Bool.not_true, Bool.not_false, Bool.false_eq_true, List.replicate_zero, List.replicate_succ, List.map_cons, List.map_nil, List.nil_append, List.cons_append, Nat.reduceSub, Nat.reduceAdd, Nat.reduceLeDiff, Nat.reduceLT, Int.reduceLT, Int.reduceLE, Int.reduceAdd, Int.reduceSub, Int.reduceMul, Int.reduceNeg, Int.reduceMod, Int.reduceDiv, Int.reducePow, Int.reduceToNat, okD_int, okD_bl, okD_lst, okD_tup, okD_non, okL_nil, okL_cons, okD_str, okL_int, eqD_int, eqD_bl, eqD_str, eqD_tup, eqD_lst, eqL_cons, eqL_nil, eqL_cn, eqL_nc, eqL_int, Bool.and_eq_true, Bool.or_eq_true, Bool.not_eq_true', Bool.and_false, Bool.false_and, Bool.or_false, Bool.false_or, Bool.or_true, Bool.true_or, Bool.and_true, Bool.true_and, Bool.and_self, wIsT2, wDct0, wLstOf, wRepF, wAsgH, DV.hN, hIx, hCons, hNil, hTup, wLM, gCnt, gIdx, gList, gSorted, wDctO, wPar3, wAppPop, wRaise0, wRaise1, wTry, wIsE, wAct, wFl, flD, gAnyX, gSumX, wCatF, wSSet, wLstR1, wLstR2, wTupR1, wFld])
      unfold B__law_draw_4
      (try simp only [wSeq, wAsg, wOwn, wF, wLc, wSkip, wBrk, wCnt, wRet, wRetF, wRetN, wDrop, wIfS, wPar, wFor, wWh, wV, wApp, wExt, wSetIx, wAug, wVal, wLook, wC, wOp, wTst, wChain, wAnd, wOr, wNot, wAndV, wOrV, wNotV, wIf, wNil, wCons, wTup, wLst, wCall, wCB, wIsT, wiR1, wiR2, wiSq, wiEn, wiZip, gN, gT1, gT2, gT3, gT4, gT5, gT6, gT7, wYes, gAdd, DV.gSub, gMul, gMod, gDiv, gPow, gLt, gLe, gGt, gGe, gCmp, gEq, gNe, gIs, gIsN, DV.isNon, gIn, gNotIn, gIx, gSlc, wSlc, wNoP, wPart, gLen, gAbs, gInt, gMin2, gMax2, gAll, gAny, gSum, gTuple, wNeg, wRev, wRevX, itemsOf, D.isTy, D.isHand, Sl.toD, big_0, big_1, big_2, big_3, big_4, big_5, big_6, big_7, big_8, big_9, big_10, big_11, big_12, draw_iff, own_ex, val_ex, wipeE, restE, Sl.keep, Option.getD_some, get_z, get_s, set_z, set_s, List.length_cons, List.length_nil, atI_0, atI_1, atI_2, atI_3, atI_4, ixN_5_0, ixN_5_1, ixN_5_2, ixN_5_3, ixN_5_4, D.bl.injEq, D.int.injEq, D.lst.injEq, D.tup.injEq, D.str.injEq, Sl.own.injEq, Sl.val.injEq, Option.some.injEq, exists_eq_left', exists_eq_left, exists_eq', exists_eq, or_true, true_or, or_false, false_or, CMul, CPow, natAbs_10, natAbs_2, Int.cast_ofNat_Int, Nat.reducePow, exists_and_left, exists_const, and_assoc, true_and, and_true, and_self, false_and, and_false, if_true, if_false, ite_true, ite_false, reduceCtorEq, decide_true, decide_false, decide_eq_true_eq, decide_eq_false_iff_not, Bool.not_true, Bool.not_false, Bool.false_eq_true, List.replicate_zero, List.replicate_succ, List.map_cons, List.map_nil, List.nil_append, List.cons_append, Nat.reduceSub, Nat.reduceAdd, Nat.reduceLeDiff, Nat.reduceLT, Int.reduceLT, Int.reduceLE, Int.reduceAdd, Int.reduceSub, Int.reduceMul, Int.reduceNeg, Int.reduceMod, Int.reduceDiv, Int.reducePow, Int.reduceToNat, okD_int, okD_bl, okD_lst, okD_tup, okD_non, okL_nil, okL_cons, okD_str, okL_int, eqD_int, eqD_bl, eqD_str, eqD_tup, eqD_lst, eqL_cons, eqL_nil, eqL_cn, eqL_nc, eqL_int, Bool.and_eq_true, Bool.or_eq_true, Bool.not_eq_true', Bool.and_false, Bool.false_and, Bool.or_false, Bool.false_or, Bool.or_true, Bool.true_or, Bool.and_true, Bool.true_and, Bool.and_self, wIsT2, wDct0, wLstOf, wRepF, wAsgH, DV.hN, hIx, hCons, hNil, hTup, wLM, gCnt, gIdx, gList, gSorted, wDctO, wPar3, wAppPop, wRaise0, wRaise1, wTry, wIsE, wAct, wFl, flD, gAnyX, gSumX, wCatF, wSSet, wLstR1, wLstR2, wTupR1, wFld])
      have k1 : 0 ≤ (st * 69621 + c * 48271 + 17) % 2147483629 := Int.emod_nonneg _ (by decide)
      have k2 : (st * 69621 + c * 48271 + 17) % 2147483629 < 2147483629 := Int.emod_lt_of_pos _ (by decide)
      unfold B__law_draw_5
      (try simp only [wSeq, wAsg, wOwn, wF, wLc, wSkip, wBrk, wCnt, wRet, wRetF, wRetN, wDrop, wIfS, wPar, wFor, wWh, wV, wApp, wExt, wSetIx, wAug, wVal, wLook, wC, wOp, wTst, wChain, wAnd, wOr, wNot, wAndV, wOrV, wNotV, wIf, wNil, wCons, wTup, wLst, wCall, wCB, wIsT, wiR1, wiR2, wiSq, wiEn, wiZip, gN, gT1, gT2, gT3, gT4, gT5, gT6, gT7, wYes, gAdd, DV.gSub, gMul, gMod, gDiv, gPow, gLt, gLe, gGt, gGe, gCmp, gEq, gNe, gIs, gIsN, DV.isNon, gIn, gNotIn, gIx, gSlc, wSlc, wNoP, wPart, gLen, gAbs, gInt, gMin2, gMax2, gAll, gAny, gSum, gTuple, wNeg, wRev, wRevX, itemsOf, D.isTy, D.isHand, Sl.toD, big_0, big_1, big_2, big_3, big_4, big_5, big_6, big_7, big_8, big_9, big_10, big_11, big_12, draw_iff, own_ex, val_ex, wipeE, restE, Sl.keep, Option.getD_some, get_z, get_s, set_z, set_s, List.length_cons, List.length_nil, atI_0, atI_1, atI_2, atI_3, atI_4, ixN_5_0, ixN_5_1, ixN_5_2, ixN_5_3, ixN_5_4, D.bl.injEq, D.int.injEq, D.lst.injEq, D.tup.injEq, D.str.injEq, Sl.own.injEq, Sl.val.injEq, Option.some.injEq, exists_eq_left', exists_eq_left, exists_eq', exists_eq, or_true, true_or, or_false, false_or, CMul, CPow, natAbs_10, natAbs_2, Int.cast_ofNat_Int, Nat.reducePow, exists_and_left, exists_const, and_assoc, true_and, and_true, and_self, false_and, and_false, if_true, if_false, ite_true, ite_false, reduceCtorEq, decide_true, decide_false, decide_eq_true_eq, decide_eq_false_iff_not, Bool.not_true, Bool.not_false, Bool.false_eq_true, List.replicate_zero, List.replicate_succ, List.map_cons, List.map_nil, List.nil_append, List.cons_append, Nat.reduceSub, Nat.reduceAdd, Nat.reduceLeDiff, Nat.reduceLT, Int.reduceLT, Int.reduceLE, Int.reduceAdd, Int.reduceSub, Int.reduceMul, Int.reduceNeg, Int.reduceMod, Int.reduceDiv, Int.reducePow, Int.reduceToNat, okD_int, okD_bl, okD_lst, okD_tup, okD_non, okL_nil, okL_cons, okD_str, okL_int, eqD_int, eqD_bl, eqD_str, eqD_tup, eqD_lst, eqL_cons, eqL_nil, eqL_cn, eqL_nc, eqL_int, Bool.and_eq_true, Bool.or_eq_true, Bool.not_eq_true', Bool.and_false, Bool.false_and, Bool.or_false, Bool.false_or, Bool.or_true, Bool.true_or, Bool.and_true, Bool.true_and, Bool.and_self, wIsT2, wDct0, wLstOf, wRepF, wAsgH, DV.hN, hIx, hCons, hNil, hTup, wLM, gCnt, gIdx, gList, gSorted, wDctO, wPar3, wAppPop, wRaise0, wRaise1, wTry, wIsE, wAct, wFl, flD, gAnyX, gSumX, wCatF, wSSet, wLstR1, wLstR2, wTupR1, wFld])
      split
      · exact last (p + 1) c _ cnt _ _ (by omega) k1 hn (by omega) _
      · exact last (p + 1) 0 _ cnt _ _ (by omega) k1 hn (by omega) _
    · exact last p 0 st cnt _ _ (by omega) hs hn hs2 _
  · exact last p bg st cnt _ _ hb hs hn hs2 _

end Law

set_option Elab.async false
set_option linter.all false
set_option maxRecDepth 100000
namespace Law
open PySem PySem.Spec PyProof.Rows L2 DV
section
variable {Q : D → Prop} {E : Er → Prop}
/-- an int that is no bool -/
def _root_.DV.D.isI : D → Bool
  | .int _ => true
  | _ => false
/-- x a number from lo to hi -/
def within : D → Int → Int → Bool
  | .int i, lo, hi => decide (lo ≤ i) && decide (i ≤ hi)
  | _, _, _ => false
theorem sp_is_integer {x : D} (h : x.isHand = false) : T_is_integer [x] Q E ↔ Q (.bl x.isI) := by
  rw [T_is_integer_eq]; unfold wFn B_is_integer
  cases x <;> first | (cases h; done) | simp only [wSeq, wAsg, wOwn, wF, wLc, wSkip, wBrk, wCnt, wRet, wRetF, wRetN, wDrop, wIfS, wPar, wFor, wWh, wV, wApp, wExt, wSetIx, wAug, wVal, wLook, wC, wOp, wTst, wChain, wAnd, wOr, wNot, wAndV, wOrV, wNotV, wIf, wNil, wCons, wTup, wLst, wCall, wCB, wIsT, wiR1, wiR2, wiSq, wiEn, wiZip, gN, gT1, gT2, gT3, gT4, gT5, gT6, gT7, wYes, gAdd, DV.gSub, gMul, gMod, gDiv, gPow, gLt, gLe, gGt, gGe, gCmp, gEq, gNe, gIs, gIsN, DV.isNon, gIn, gNotIn, gIx, gSlc, wSlc, wNoP, wPart, gLen, gAbs, gInt, gMin2, gMax2, gAll, gAny, gSum, gTuple, wNeg, wRev, wRevX, itemsOf, D.isTy, D.isHand, Sl.toD, big_0, big_1, big_2, big_3, big_4, big_5, big_6, big_7, big_8, big_9, big_10, big_11, big_12, draw_iff, own_ex, val_ex, wipeE, restE, Sl.keep, Option.getD_some, get_z, get_s, set_z, set_s, List.length_cons, List.length_nil, atI_0, atI_1, atI_2, atI_3, atI_4, ixN_5_0, ixN_5_1, ixN_5_2, ixN_5_3, ixN_5_4, D.bl.injEq, D.int.injEq, D.lst.injEq, D.tup.injEq, D.str.injEq, Sl.own.injEq, Sl.val.injEq, Option.some.injEq, exists_eq_left', exists_eq_left, exists_eq', exists_eq, or_true, true_or, or_false, false_or, CMul, CPow, natAbs_10, natAbs_2, Int.cast_ofNat_Int, Nat.reducePow, exists_and_left, exists_const, and_assoc, true_and, and_true, and_self, false_and, and_false, if_true, if_false, ite_true, ite_false, reduceCtorEq, decide_true, decide_false, decide_eq_true_eq, decide_eq_false_iff_not, Bool.not_true, Bool.not_false, Bool.false_eq_true, List.replicate_zero, List.replicate_succ, List.map_cons, List.map_nil, List.nil_append, List.cons_append, Nat.reduceSub, Nat.reduceAdd, Nat.reduceLeDiff, Nat.reduceLT, Int.reduceLT, Int.reduceLE, Int.reduceAdd, Int.reduceSub, Int.reduceMul, Int.reduceNeg, Int.reduceMod, Int.reduceDiv, Int.reducePow, Int.reduceToNat, okD_int, okD_bl, okD_lst, okD_tup, okD_non, okL_nil, okL_cons, okD_str, okL_int, eqD_int, eqD_bl, eqD_str, eqD_tup, eqD_lst, eqL_cons, eqL_nil, eqL_cn, eqL_nc, eqL_int, Bool.and_eq_true, Bool.or_eq_true, Bool.not_eq_true', Bool.and_false, Bool.false_and, Bool.or_false, Bool.false_or, Bool.or_true, Bool.true_or, Bool.and_true, Bool.true_and, Bool.and_self, wIsT2, wDct0, wLstOf, wRepF, wAsgH, DV.hN, hIx, hCons, hNil, hTup, wLM, gCnt, gIdx, gList, gSorted, wDctO, wPar3, wAppPop, wRaise0, wRaise1, wTry, wIsE, wAct, wFl, flD, gAnyX, gSumX, wCatF, wSSet, wLstR1, wLstR2, wTupR1, wFld, D.isI]
theorem sp_is_within {x : D} {lo hi : Int} (h : x.isHand = false) : T_is_within [x, .int lo, .int hi] Q E ↔ Q (.bl (within x lo hi)) := by
  rw [T_is_within_eq]; unfold wFn B_is_within
  simp only [wSeq, wAsg, wOwn, wF, wLc, wSkip, wBrk, wCnt, wRet, wRetF, wRetN, wDrop, wIfS, wPar, wFor, wWh, wV, wApp, wExt, wSetIx, wAug, wVal, wLook, wC, wOp, wTst, wChain, wAnd, wOr, wNot, wAndV, wOrV, wNotV, wIf, wNil, wCons, wTup, wLst, wCall, wCB, wIsT, wiR1, wiR2, wiSq, wiEn, wiZip, gN, gT1, gT2, gT3, gT4, gT5, gT6, gT7, wYes, gAdd, DV.gSub, gMul, gMod, gDiv, gPow, gLt, gLe, gGt, gGe, gCmp, gEq, gNe, gIs, gIsN, DV.isNon, gIn, gNotIn, gIx, gSlc, wSlc, wNoP, wPart, gLen, gAbs, gInt, gMin2, gMax2, gAll, gAny, gSum, gTuple, wNeg, wRev, wRevX, itemsOf, D.isTy, D.isHand, Sl.toD, big_0, big_1, big_2, big_3, big_4, big_5, big_6, big_7, big_8, big_9, big_10, big_11, big_12, draw_iff, own_ex, val_ex, wipeE, restE, Sl.keep, Option.getD_some, get_z, get_s, set_z, set_s, List.length_cons, List.length_nil, atI_0, atI_1, atI_2, atI_3, atI_4, ixN_5_0, ixN_5_1, ixN_5_2, ixN_5_3, ixN_5_4, D.bl.injEq, D.int.injEq, D.lst.injEq, D.tup.injEq, D.str.injEq, Sl.own.injEq, Sl.val.injEq, Option.some.injEq, exists_eq_left', exists_eq_left, exists_eq', exists_eq, or_true, true_or, or_false, false_or, CMul, CPow, natAbs_10, natAbs_2, Int.cast_ofNat_Int, Nat.reducePow, exists_and_left, exists_const, and_assoc, true_and, and_true, and_self, false_and, and_false, if_true, if_false, ite_true, ite_false, reduceCtorEq, decide_true, decide_false, decide_eq_true_eq, decide_eq_false_iff_not, Bool.not_true, Bool.not_false, Bool.false_eq_true, List.replicate_zero, List.replicate_succ, List.map_cons, List.map_nil, List.nil_append, List.cons_append, Nat.reduceSub, Nat.reduceAdd, Nat.reduceLeDiff, Nat.reduceLT, Int.reduceLT, Int.reduceLE, Int.reduceAdd, Int.reduceSub, Int.reduceMul, Int.reduceNeg, Int.reduceMod, Int.reduceDiv, Int.reducePow, Int.reduceToNat, okD_int, okD_bl, okD_lst, okD_tup, okD_non, okL_nil, okL_cons, okD_str, okL_int, eqD_int, eqD_bl, eqD_str, eqD_tup, eqD_lst, eqL_cons, eqL_nil, eqL_cn, eqL_nc, eqL_int, Bool.and_eq_true, Bool.or_eq_true, Bool.not_eq_true', Bool.and_false, Bool.false_and, Bool.or_false, Bool.false_or, Bool.or_true, Bool.true_or, Bool.and_true, Bool.true_and, Bool.and_self, wIsT2, wDct0, wLstOf, wRepF, wAsgH, DV.hN, hIx, hCons, hNil, hTup, wLM, gCnt, gIdx, gList, gSorted, wDctO, wPar3, wAppPop, wRaise0, wRaise1, wTry, wIsE, wAct, wFl, flD, gAnyX, gSumX, wCatF, wSSet, wLstR1, wLstR2, wTupR1, wFld, sp_is_integer h]
  cases x with
  | int i => 
    simp only [wSeq, wAsg, wOwn, wF, wLc, wSkip, wBrk, wCnt, wRet, wRetF, wRetN, wDrop, wIfS, wPar, wFor, wWh, wV, wApp, wExt, wSetIx, wAug, wVal, wLook, wC, wOp, wTst, wChain, wAnd, wOr, wNot, wAndV, wOrV, wNotV, wIf, wNil, wCons, wTup, wLst, wCall, wCB, wIsT, wiR1, wiR2, wiSq, wiEn, wiZip, gN, gT1, gT2, gT3, gT4, gT5, gT6, gT7, wYes, gAdd, DV.gSub, gMul, gMod, gDiv, gPow, gLt, gLe, gGt, gGe, gCmp, gEq, gNe, gIs, gIsN, DV.isNon, gIn, gNotIn, gIx, gSlc, wSlc, wNoP, wPart, gLen, gAbs, gInt, gMin2, gMax2, gAll, gAny, gSum, gTuple, wNeg, wRev, wRevX, itemsOf, D.isTy, D.isHand, Sl.toD, big_0, big_1, big_2, big_3, big_4, big_5, big_6, big_7, big_8, big_9, big_10, big_11, big_12, draw_iff, own_ex, val_ex, wipeE, restE, Sl.keep, Option.getD_some, get_z, get_s, set_z, set_s, List.length_cons, List.length_nil, atI_0, atI_1, atI_2, atI_3, atI_4, ixN_5_0, ixN_5_1, ixN_5_2, ixN_5_3, ixN_5_4, D.bl.injEq, D.int.injEq, D.lst.injEq, D.tup.injEq, D.str.injEq, Sl.own.injEq, Sl.val.injEq, Option.some.injEq, exists_eq_left', exists_eq_left, exists_eq', exists_eq, or_true, true_or, or_false, false_or, CMul, CPow, natAbs_10, natAbs_2, Int.cast_ofNat_Int, Nat.reducePow, exists_and_left, exists_const, and_assoc, true_and, and_true, and_self, false_and, and_false, if_true, if_false, ite_true, ite_false, reduceCtorEq, decide_true, decide_false, decide_eq_true_eq, decide_eq_false_iff_not, Bool.not_true, Bool.not_false, Bool.false_eq_true, List.replicate_zero, List.replicate_succ, List.map_cons, List.map_nil, List.nil_append, List.cons_append, Nat.reduceSub, Nat.reduceAdd, Nat.reduceLeDiff, Nat.reduceLT, Int.reduceLT, Int.reduceLE, Int.reduceAdd, Int.reduceSub, Int.reduceMul, Int.reduceNeg, Int.reduceMod, Int.reduceDiv, Int.reducePow, Int.reduceToNat, okD_int, okD_bl, okD_lst, okD_tup, okD_non, okL_nil, okL_cons, okD_str, okL_int, eqD_int, eqD_bl, eqD_str, eqD_tup, eqD_lst, eqL_cons, eqL_nil, eqL_cn, eqL_nc, eqL_int, Bool.and_eq_true, Bool.or_eq_true, Bool.not_eq_true', Bool.and_false, Bool.false_and, Bool.or_false, Bool.false_or, Bool.or_true, Bool.true_or, Bool.and_true, Bool.true_and, Bool.and_self, wIsT2, wDct0, wLstOf, wRepF, wAsgH, DV.hN, hIx, hCons, hNil, hTup, wLM, gCnt, gIdx, gList, gSorted, wDctO, wPar3, wAppPop, wRaise0, wRaise1, wTry, wIsE, wAct, wFl, flD, gAnyX, gSumX, wCatF, wSSet, wLstR1, wLstR2, wTupR1, wFld, within, D.isI]
    by_cases h : lo ≤ i <;> simp [h]
  | _ => simp only [wSeq, wAsg, wOwn, wF, wLc, wSkip, wBrk, wCnt, wRet, wRetF, wRetN, wDrop, wIfS, wPar, wFor, wWh, wV, wApp, wExt, wSetIx, wAug, wVal, wLook, wC, wOp, wTst, wChain, wAnd, wOr, wNot, wAndV, wOrV, wNotV, wIf, wNil, wCons, wTup, wLst, wCall, wCB, wIsT, wiR1, wiR2, wiSq, wiEn, wiZip, gN, gT1, gT2, gT3, gT4, gT5, gT6, gT7, wYes, gAdd, DV.gSub, gMul, gMod, gDiv, gPow, gLt, gLe, gGt, gGe, gCmp, gEq, gNe, gIs, gIsN, DV.isNon, gIn, gNotIn, gIx, gSlc, wSlc, wNoP, wPart, gLen, gAbs, gInt, gMin2, gMax2, gAll, gAny, gSum, gTuple, wNeg, wRev, wRevX, itemsOf, D.isTy, D.isHand, Sl.toD, big_0, big_1, big_2, big_3, big_4, big_5, big_6, big_7, big_8, big_9, big_10, big_11, big_12, draw_iff, own_ex, val_ex, wipeE, restE, Sl.keep, Option.getD_some, get_z, get_s, set_z, set_s, List.length_cons, List.length_nil, atI_0, atI_1, atI_2, atI_3, atI_4, ixN_5_0, ixN_5_1, ixN_5_2, ixN_5_3, ixN_5_4, D.bl.injEq, D.int.injEq, D.lst.injEq, D.tup.injEq, D.str.injEq, Sl.own.injEq, Sl.val.injEq, Option.some.injEq, exists_eq_left', exists_eq_left, exists_eq', exists_eq, or_true, true_or, or_false, false_or, CMul, CPow, natAbs_10, natAbs_2, Int.cast_ofNat_Int, Nat.reducePow, exists_and_left, exists_const, and_assoc, true_and, and_true, and_self, false_and, and_false, if_true, if_false, ite_true, ite_false, reduceCtorEq, decide_true, decide_false, decide_eq_true_eq, decide_eq_false_iff_not, Bool.not_true, Bool.not_false, Bool.false_eq_true, List.replicate_zero, List.replicate_succ, List.map_cons, List.map_nil, List.nil_append, List.cons_append, Nat.reduceSub, Nat.reduceAdd, Nat.reduceLeDiff, Nat.reduceLT, Int.reduceLT, Int.reduceLE, Int.reduceAdd, Int.reduceSub, Int.reduceMul, Int.reduceNeg, Int.reduceMod, Int.reduceDiv, Int.reducePow, Int.reduceToNat, okD_int, okD_bl, okD_lst, okD_tup, okD_non, okL_nil, okL_cons, okD_str, okL_int, eqD_int, eqD_bl, eqD_str, eqD_tup, eqD_lst, eqL_cons, eqL_nil, eqL_cn, eqL_nc, eqL_int, Bool.and_eq_true, Bool.or_eq_true, Bool.not_eq_true', Bool.and_false, Bool.false_and, Bool.or_false, Bool.false_or, Bool.or_true, Bool.true_or, Bool.and_true, Bool.true_and, Bool.and_self, wIsT2, wDct0, wLstOf, wRepF, wAsgH, DV.hN, hIx, hCons, hNil, hTup, wLM, gCnt, gIdx, gList, gSorted, wDctO, wPar3, wAppPop, wRaise0, wRaise1, wTry, wIsE, wAct, wFl, flD, gAnyX, gSumX, wCatF, wSSet, wLstR1, wLstR2, wTupR1, wFld, within, D.isI]
end

theorem sp_any {Q : D → Prop} {E : Er → Prop} {xs : List D} (h1 : 0 < xs.length) (h2 : xs.length < 1180591620717411303424) (h : ∀ x ∈ xs, Q x) : T__law_any [.hand, .lst xs] Q E := by
  rw [T__law_any_eq]; unfold wFn B__law_any
  (try simp only [wSeq, wAsg, wOwn, wF, wLc, wSkip, wBrk, wCnt, wRet, wRetF, wRetN, wDrop, wIfS, wPar, wFor, wWh, wV, wApp, wExt, wSetIx, wAug, wVal, wLook, wC, wOp, wTst, wChain, wAnd, wOr, wNot, wAndV, wOrV, wNotV, wIf, wNil, wCons, wTup, wLst, wCall, wCB, wIsT, wiR1, wiR2, wiSq, wiEn, wiZip, gN, gT1, gT2, gT3, gT4, gT5, gT6, gT7, wYes, gAdd, DV.gSub, gMul, gMod, gDiv, gPow, gLt, gLe, gGt, gGe, gCmp, gEq, gNe, gIs, gIsN, DV.isNon, gIn, gNotIn, gIx, gSlc, wSlc, wNoP, wPart, gLen, gAbs, gInt, gMin2, gMax2, gAll, gAny, gSum, gTuple, wNeg, wRev, wRevX, itemsOf, D.isTy, D.isHand, Sl.toD, big_0, big_1, big_2, big_3, big_4, big_5, big_6, big_7, big_8, big_9, big_10, big_11, big_12, draw_iff, own_ex, val_ex, wipeE, restE, Sl.keep, Option.getD_some, get_z, get_s, set_z, set_s, List.length_cons, List.length_nil, atI_0, atI_1, atI_2, atI_3, atI_4, ixN_5_0, ixN_5_1, ixN_5_2, ixN_5_3, ixN_5_4, D.bl.injEq, D.int.injEq, D.lst.injEq, D.tup.injEq, D.str.injEq, Sl.own.injEq, Sl.val.injEq, Option.some.injEq, exists_eq_left', exists_eq_left, exists_eq', exists_eq, or_true, true_or, or_false, false_or, CMul, CPow, natAbs_10, natAbs_2, Int.cast_ofNat_Int, Nat.reducePow, exists_and_left, exists_const, and_assoc, true_and, and_true, and_self, false_and, and_false, if_true, if_false, ite_true, ite_false, reduceCtorEq, decide_true, decide_false, decide_eq_true_eq, decide_eq_false_iff_not, Bool.not_true, Bool.not_false, Bool.false_eq_true, List.replicate_zero, List.replicate_succ, List.map_cons, List.map_nil, List.nil_append, List.cons_append, Nat.reduceSub, Nat.reduceAdd, Nat.reduceLeDiff, Nat.reduceLT, Int.reduceLT, Int.reduceLE, Int.reduceAdd, Int.reduceSub, Int.reduceMul, Int.reduceNeg, Int.reduceMod, Int.reduceDiv, Int.reducePow, Int.reduceToNat, okD_int, okD_bl, okD_lst, okD_tup, okD_non, okL_nil, okL_cons, okD_str, okL_int, eqD_int, eqD_bl, eqD_str, eqD_tup, eqD_lst, eqL_cons, eqL_nil, eqL_cn, eqL_nc, eqL_int, Bool.and_eq_true, Bool.or_eq_true, Bool.not_eq_true', Bool.and_false, Bool.false_and, Bool.or_false, Bool.false_or, Bool.or_true, Bool.true_or, Bool.and_true, Bool.true_and, Bool.and_self, wIsT2, wDct0, wLstOf, wRepF, wAsgH, DV.hN, hIx, hCons, hNil, hTup, wLM, gCnt, gIdx, gList, gSorted, wDctO, wPar3, wAppPop, wRaise0, wRaise1, wTry, wIsE, wAct, wFl, flD, gAnyX, gSumX, wCatF, wSSet, wLstR1, wLstR2, wTupR1, wFld])
  refine ⟨by omega, by omega, fun d d1 d2 => ?_⟩
  obtain ⟨n, rfl⟩ := Int.eq_ofNat_of_zero_le d1
  rw [atI_nat (k := n) rfl]
  have hn : n < xs.length := by omega
  exact ⟨xs[n], List.getElem?_eq_getElem hn, h _ (List.getElem_mem hn)⟩

theorem toBs_of (f : D → Bool) (xs : List D) : toBs (xs.map fun d => .bl (f d)) = some (xs.map f) := by
  rw [← toBs_map, List.map_map]; rfl
theorem all_id (f : D → Bool) (xs : List D) : (xs.map f).all id = xs.all f := by rw [List.all_map]; rfl
theorem sp_lam {F : Fl} {Tb : DV.Tm} {env : DV.Env} {Q : D → DV.Env → Prop} {E' : Ex} (h : F (fun Q' E' => Tb env (fun d e => e = env ∧ Q' d) (fun er e => e = env ∧ E' er)) (fun d => Q d env)) : wLam F Tb env Q E' := h

/-- a thing of a plain kind -/
def plain1 : D → Bool
  | .hand | .frz _ | .fn _ | .obj _ _ => false
  | _ => true
theorem plain1.nh {d : D} (h : plain1 d = true) : d.isHand = false := by cases d <;> first | rfl | cases h
/-- a thing that may be looked at as a tuple -/
def Fig (d : D) : Prop := plain1 d = true ∧ ∀ xs, d = .tup xs → xs.length ≤ 1000 ∧ ∀ x ∈ xs, x.isHand = false
def szD (lo hi : Int) : D → Bool
  | .tup xs => decide (lo ≤ (xs.length : Int)) && decide ((xs.length : Int) ≤ hi)
  | _ => false
theorem Fig.nt {d : D} (h : plain1 d = true) (h2 : ∀ xs, d ≠ .tup xs) : Fig d := ⟨h, fun xs e => absurd e (h2 xs)⟩
theorem Fig.one {x : D} (h : x.isHand = false) : Fig (.tup [x]) := ⟨rfl, fun xs e => by cases e; exact ⟨by simp, fun y hy => by rw [List.mem_singleton.mp hy]; exact h⟩⟩
theorem Fig.ints {l : List Int} (h : l.length ≤ 1000) : Fig (.tup (l.map D.int)) := ⟨rfl, fun xs e => by
  cases e
  refine ⟨by rw [List.length_map]; exact h, fun x hx => ?_⟩
  obtain ⟨y, _, rfl⟩ := List.mem_map.mp hx
  rfl⟩
theorem sp_is_sized {Q : D → Prop} {E : Er → Prop} {lo hi : Int} {d : D} (h : plain1 d = true) (hb : ∀ xs, d = .tup xs → xs.length ≤ 1000) : T_is_sized [d, .int lo, .int hi] Q E ↔ Q (.bl (szD lo hi d)) := by
  rw [T_is_sized_eq]; unfold wFn B_is_sized
  cases d with
  | tup xs =>
    have := hb xs rfl
    have hb2 : xs.length ≤ big := by unfold big; omega
    simp only [wSeq, wAsg, wOwn, wF, wLc, wSkip, wBrk, wCnt, wRet, wRetF, wRetN, wDrop, wIfS, wPar, wFor, wWh, wV, wApp, wExt, wSetIx, wAug, wVal, wLook, wC, wOp, wTst, wChain, wAnd, wOr, wNot, wAndV, wOrV, wNotV, wIf, wNil, wCons, wTup, wLst, wCall, wCB, wIsT, wiR1, wiR2, wiSq, wiEn, wiZip, gN, gT1, gT2, gT3, gT4, gT5, gT6, gT7, wYes, gAdd, DV.gSub, gMul, gMod, gDiv, gPow, gLt, gLe, gGt, gGe, gCmp, gEq, gNe, gIs, gIsN, DV.isNon, gIn, gNotIn, gIx, gSlc, wSlc, wNoP, wPart, gLen, gAbs, gInt, gMin2, gMax2, gAll, gAny, gSum, gTuple, wNeg, wRev, wRevX, itemsOf, D.isTy, D.isHand, Sl.toD, big_0, big_1, big_2, big_3, big_4, big_5, big_6, big_7, big_8, big_9, big_10, big_11, big_12, draw_iff, own_ex, val_ex, wipeE, restE, Sl.keep, Option.getD_some, get_z, get_s, set_z, set_s, List.length_cons, List.length_nil, atI_0, atI_1, atI_2, atI_3, atI_4, ixN_5_0, ixN_5_1, ixN_5_2, ixN_5_3, ixN_5_4, D.bl.injEq, D.int.injEq, D.lst.injEq, D.tup.injEq, D.str.injEq, Sl.own.injEq, Sl.val.injEq, Option.some.injEq, exists_eq_left', exists_eq_left, exists_eq', exists_eq, or_true, true_or, or_false, false_or, CMul, CPow, natAbs_10, natAbs_2, Int.cast_ofNat_Int, Nat.reducePow, exists_and_left, exists_const, and_assoc, true_and, and_true, and_self, false_and, and_false, if_true, if_false, ite_true, ite_false, reduceCtorEq, decide_true, decide_false, decide_eq_true_eq, decide_eq_false_iff_not, Bool.not_true, Bool.not_false, Bool.false_eq_true, List.replicate_zero, List.replicate_succ, List.map_cons, List.map_nil, List.nil_append, List.cons_append, Nat.reduceSub, Nat.reduceAdd, Nat.reduceLeDiff, Nat.reduceLT, Int.reduceLT, Int.reduceLE, Int.reduceAdd, Int.reduceSub, Int.reduceMul, Int.reduceNeg, Int.reduceMod, Int.reduceDiv, Int.reducePow, Int.reduceToNat, okD_int, okD_bl, okD_lst, okD_tup, okD_non, okL_nil, okL_cons, okD_str, okL_int, eqD_int, eqD_bl, eqD_str, eqD_tup, eqD_lst, eqL_cons, eqL_nil, eqL_cn, eqL_nc, eqL_int, Bool.and_eq_true, Bool.or_eq_true, Bool.not_eq_true', Bool.and_false, Bool.false_and, Bool.or_false, Bool.false_or, Bool.or_true, Bool.true_or, Bool.and_true, Bool.true_and, Bool.and_self, wIsT2, wDct0, wLstOf, wRepF, wAsgH, DV.hN, hIx, hCons, hNil, hTup, wLM, gCnt, gIdx, gList, gSorted, wDctO, wPar3, wAppPop, wRaise0, wRaise1, wTry, wIsE, wAct, wFl, flD, gAnyX, gSumX, wCatF, wSSet, wLstR1, wLstR2, wTupR1, wFld, szD, hb2]
    by_cases h : lo ≤ (xs.length : Int) <;> simp [h]
  | hand => cases h
  | frz _ => cases h
  | fn _ => cases h
  | obj _ _ => cases h
  | _ => simp only [wSeq, wAsg, wOwn, wF, wLc, wSkip, wBrk, wCnt, wRet, wRetF, wRetN, wDrop, wIfS, wPar, wFor, wWh, wV, wApp, wExt, wSetIx, wAug, wVal, wLook, wC, wOp, wTst, wChain, wAnd, wOr, wNot, wAndV, wOrV, wNotV, wIf, wNil, wCons, wTup, wLst, wCall, wCB, wIsT, wiR1, wiR2, wiSq, wiEn, wiZip, gN, gT1, gT2, gT3, gT4, gT5, gT6, gT7, wYes, gAdd, DV.gSub, gMul, gMod, gDiv, gPow, gLt, gLe, gGt, gGe, gCmp, gEq, gNe, gIs, gIsN, DV.isNon, gIn, gNotIn, gIx, gSlc, wSlc, wNoP, wPart, gLen, gAbs, gInt, gMin2, gMax2, gAll, gAny, gSum, gTuple, wNeg, wRev, wRevX, itemsOf, D.isTy, D.isHand, Sl.toD, big_0, big_1, big_2, big_3, big_4, big_5, big_6, big_7, big_8, big_9, big_10, big_11, big_12, draw_iff, own_ex, val_ex, wipeE, restE, Sl.keep, Option.getD_some, get_z, get_s, set_z, set_s, List.length_cons, List.length_nil, atI_0, atI_1, atI_2, atI_3, atI_4, ixN_5_0, ixN_5_1, ixN_5_2, ixN_5_3, ixN_5_4, D.bl.injEq, D.int.injEq, D.lst.injEq, D.tup.injEq, D.str.injEq, Sl.own.injEq, Sl.val.injEq, Option.some.injEq, exists_eq_left', exists_eq_left, exists_eq', exists_eq, or_true, true_or, or_false, false_or, CMul, CPow, natAbs_10, natAbs_2, Int.cast_ofNat_Int, Nat.reducePow, exists_and_left, exists_const, and_assoc, true_and, and_true, and_self, false_and, and_false, if_true, if_false, ite_true, ite_false, reduceCtorEq, decide_true, decide_false, decide_eq_true_eq, decide_eq_false_iff_not, Bool.not_true, Bool.not_false, Bool.false_eq_true, List.replicate_zero, List.replicate_succ, List.map_cons, List.map_nil, List.nil_append, List.cons_append, Nat.reduceSub, Nat.reduceAdd, Nat.reduceLeDiff, Nat.reduceLT, Int.reduceLT, Int.reduceLE, Int.reduceAdd, Int.reduceSub, Int.reduceMul, Int.reduceNeg, Int.reduceMod, Int.reduceDiv, Int.reducePow, Int.reduceToNat, okD_int, okD_bl, okD_lst, okD_tup, okD_non, okL_nil, okL_cons, okD_str, okL_int, eqD_int, eqD_bl, eqD_str, eqD_tup, eqD_lst, eqL_cons, eqL_nil, eqL_cn, eqL_nc, eqL_int, Bool.and_eq_true, Bool.or_eq_true, Bool.not_eq_true', Bool.and_false, Bool.false_and, Bool.or_false, Bool.false_or, Bool.or_true, Bool.true_or, Bool.and_true, Bool.true_and, Bool.and_self, wIsT2, wDct0, wLstOf, wRepF, wAsgH, DV.hN, hIx, hCons, hNil, hTup, wLM, gCnt, gIdx, gList, gSorted, wDctO, wPar3, wAppPop, wRaise0, wRaise1, wTry, wIsE, wAct, wFl, flD, gAnyX, gSumX, wCatF, wSSet, wLstR1, wLstR2, wTupR1, wFld, szD]

section
variable {Q : D → Prop} {E : Er → Prop}
def tpD (n : Int) : D → Bool
  | .tup xs => decide ((xs.length : Int) = n)
  | _ => false
def belowD (m : Int) : D → Bool
  | .tup xs => xs.all fun x => within x 0 (m - 1)
  | _ => false
theorem sp_is_tuple {n : Int} {d : D} (h : plain1 d = true) (hb : ∀ xs, d = .tup xs → xs.length ≤ 1000) : T_is_tuple [d, .int n] Q E ↔ Q (.bl (tpD n d)) := by
  rw [T_is_tuple_eq]; unfold wFn B_is_tuple
  cases d with
  | tup xs =>
    have := hb xs rfl
    have hb2 : xs.length ≤ big := by unfold big; omega
    simp only [wSeq, wAsg, wOwn, wF, wLc, wSkip, wBrk, wCnt, wRet, wRetF, wRetN, wDrop, wIfS, wPar, wFor, wWh, wV, wApp, wExt, wSetIx, wAug, wVal, wLook, wC, wOp, wTst, wChain, wAnd, wOr, wNot, wAndV, wOrV, wNotV, wIf, wNil, wCons, wTup, wLst, wCall, wCB, wIsT, wiR1, wiR2, wiSq, wiEn, wiZip, gN, gT1, gT2, gT3, gT4, gT5, gT6, gT7, wYes, gAdd, DV.gSub, gMul, gMod, gDiv, gPow, gLt, gLe, gGt, gGe, gCmp, gEq, gNe, gIs, gIsN, DV.isNon, gIn, gNotIn, gIx, gSlc, wSlc, wNoP, wPart, gLen, gAbs, gInt, gMin2, gMax2, gAll, gAny, gSum, gTuple, wNeg, wRev, wRevX, itemsOf, D.isTy, D.isHand, Sl.toD, big_0, big_1, big_2, big_3, big_4, big_5, big_6, big_7, big_8, big_9, big_10, big_11, big_12, draw_iff, own_ex, val_ex, wipeE, restE, Sl.keep, Option.getD_some, get_z, get_s, set_z, set_s, List.length_cons, List.length_nil, atI_0, atI_1, atI_2, atI_3, atI_4, ixN_5_0, ixN_5_1, ixN_5_2, ixN_5_3, ixN_5_4, D.bl.injEq, D.int.injEq, D.lst.injEq, D.tup.injEq, D.str.injEq, Sl.own.injEq, Sl.val.injEq, Option.some.injEq, exists_eq_left', exists_eq_left, exists_eq', exists_eq, or_true, true_or, or_false, false_or, CMul, CPow, natAbs_10, natAbs_2, Int.cast_ofNat_Int, Nat.reducePow, exists_and_left, exists_const, and_assoc, true_and, and_true, and_self, false_and, and_false, if_true, if_false, ite_true, ite_false, reduceCtorEq, decide_true, decide_false, decide_eq_true_eq, decide_eq_false_iff_not, Bool.not_true, Bool.not_false, Bool.false_eq_true, List.replicate_zero, List.replicate_succ, List.map_cons, List.map_nil, List.nil_append, List.cons_append, Nat.reduceSub, Nat.reduceAdd, Nat.reduceLeDiff, Nat.reduceLT, Int.reduceLT, Int.reduceLE, Int.reduceAdd, Int.reduceSub, Int.reduceMul, Int.reduceNeg, Int.reduceMod, Int.reduceDiv, Int.reducePow, Int.reduceToNat, okD_int, okD_bl, okD_lst, okD_tup, okD_non, okL_nil, okL_cons, okD_str, okL_int, eqD_int, eqD_bl, eqD_str, eqD_tup, eqD_lst, eqL_cons, eqL_nil, eqL_cn, eqL_nc, eqL_int, Bool.and_eq_true, Bool.or_eq_true, Bool.not_eq_true', Bool.and_false, Bool.false_and, Bool.or_false, Bool.false_or, Bool.or_true, Bool.true_or, Bool.and_true, Bool.true_and, Bool.and_self, wIsT2, wDct0, wLstOf, wRepF, wAsgH, DV.hN, hIx, hCons, hNil, hTup, wLM, gCnt, gIdx, gList, gSorted, wDctO, wPar3, wAppPop, wRaise0, wRaise1, wTry, wIsE, wAct, wFl, flD, gAnyX, gSumX, wCatF, wSSet, wLstR1, wLstR2, wTupR1, wFld, tpD, hb2]
  | hand => cases h
  | frz _ => cases h
  | fn _ => cases h
  | obj _ _ => cases h
  | _ => simp only [wSeq, wAsg, wOwn, wF, wLc, wSkip, wBrk, wCnt, wRet, wRetF, wRetN, wDrop, wIfS, wPar, wFor, wWh, wV, wApp, wExt, wSetIx, wAug, wVal, wLook, wC, wOp, wTst, wChain, wAnd, wOr, wNot, wAndV, wOrV, wNotV, wIf, wNil, wCons, wTup, wLst, wCall, wCB, wIsT, wiR1, wiR2, wiSq, wiEn, wiZip, gN, gT1, gT2, gT3, gT4, gT5, gT6, gT7, wYes, gAdd, DV.gSub, gMul, gMod, gDiv, gPow, gLt, gLe, gGt, gGe, gCmp, gEq, gNe, gIs, gIsN, DV.isNon, gIn, gNotIn, gIx, gSlc, wSlc, wNoP, wPart, gLen, gAbs, gInt, gMin2, gMax2, gAll, gAny, gSum, gTuple, wNeg, wRev, wRevX, itemsOf, D.isTy, D.isHand, Sl.toD, big_0, big_1, big_2, big_3, big_4, big_5, big_6, big_7, big_8, big_9, big_10, big_11, big_12, draw_iff, own_ex, val_ex, wipeE, restE, Sl.keep, Option.getD_some, get_z, get_s, set_z, set_s, List.length_cons, List.length_nil, atI_0, atI_1, atI_2, atI_3, atI_4, ixN_5_0, ixN_5_1, ixN_5_2, ixN_5_3, ixN_5_4, D.bl.injEq, D.int.injEq, D.lst.injEq, D.tup.injEq, D.str.injEq, Sl.own.injEq, Sl.val.injEq, Option.some.injEq, exists_eq_left', exists_eq_left, exists_eq', exists_eq, or_true, true_or, or_false, false_or, CMul, CPow, natAbs_10, natAbs_2, Int.cast_ofNat_Int, Nat.reducePow, exists_and_left, exists_const, and_assoc, true_and, and_true, and_self, false_and, and_false, if_true, if_false, ite_true, ite_false, reduceCtorEq, decide_true, decide_false, decide_eq_true_eq, decide_eq_false_iff_not, Bool.not_true, Bool.not_false, Bool.false_eq_true, List.replicate_zero, List.replicate_succ, List.map_cons, List.map_nil, List.nil_append, List.cons_append, Nat.reduceSub, Nat.reduceAdd, Nat.reduceLeDiff, Nat.reduceLT, Int.reduceLT, Int.reduceLE, Int.reduceAdd, Int.reduceSub, Int.reduceMul, Int.reduceNeg, Int.reduceMod, Int.reduceDiv, Int.reducePow, Int.reduceToNat, okD_int, okD_bl, okD_lst, okD_tup, okD_non, okL_nil, okL_cons, okD_str, okL_int, eqD_int, eqD_bl, eqD_str, eqD_tup, eqD_lst, eqL_cons, eqL_nil, eqL_cn, eqL_nc, eqL_int, Bool.and_eq_true, Bool.or_eq_true, Bool.not_eq_true', Bool.and_false, Bool.false_and, Bool.or_false, Bool.false_or, Bool.or_true, Bool.true_or, Bool.and_true, Bool.true_and, Bool.and_self, wIsT2, wDct0, wLstOf, wRepF, wAsgH, DV.hN, hIx, hCons, hNil, hTup, wLM, gCnt, gIdx, gList, gSorted, wDctO, wPar3, wAppPop, wRaise0, wRaise1, wTry, wIsE, wAct, wFl, flD, gAnyX, gSumX, wCatF, wSSet, wLstR1, wLstR2, wTupR1, wFld, tpD]
theorem sp_are_below {m : Int} {d : D} (h : Fig d) (hq : Q (.bl (belowD m d))) : T_are_below [d, .int m] Q E := by
  rw [T_are_below_eq]; unfold wFn B_are_below
  obtain ⟨h1, h2⟩ := h
  cases d with
  | tup xs =>
    obtain ⟨z1, z2⟩ := h2 xs rfl
    (try simp only [wSeq, wAsg, wOwn, wF, wLc, wSkip, wBrk, wCnt, wRet, wRetF, wRetN, wDrop, wIfS, wPar, wFor, wWh, wV, wApp, wExt, wSetIx, wAug, wVal, wLook, wC, wOp, wTst, wChain, wAnd, wOr, wNot, wAndV, wOrV, wNotV, wIf, wNil, wCons, wTup, wLst, wCall, wCB, wIsT, wiR1, wiR2, wiSq, wiEn, wiZip, gN, gT1, gT2, gT3, gT4, gT5, gT6, gT7, wYes, gAdd, DV.gSub, gMul, gMod, gDiv, gPow, gLt, gLe, gGt, gGe, gCmp, gEq, gNe, gIs, gIsN, DV.isNon, gIn, gNotIn, gIx, gSlc, wSlc, wNoP, wPart, gLen, gAbs, gInt, gMin2, gMax2, gAll, gAny, gSum, gTuple, wNeg, wRev, wRevX, itemsOf, D.isTy, D.isHand, Sl.toD, big_0, big_1, big_2, big_3, big_4, big_5, big_6, big_7, big_8, big_9, big_10, big_11, big_12, draw_iff, own_ex, val_ex, wipeE, restE, Sl.keep, Option.getD_some, get_z, get_s, set_z, set_s, List.length_cons, List.length_nil, atI_0, atI_1, atI_2, atI_3, atI_4, ixN_5_0, ixN_5_1, ixN_5_2, ixN_5_3, ixN_5_4, D.bl.injEq, D.int.injEq, D.lst.injEq, D.tup.injEq, D.str.injEq, Sl.own.injEq, Sl.val.injEq, Option.some.injEq, exists_eq_left', exists_eq_left, exists_eq', exists_eq, or_true, true_or, or_false, false_or, CMul, CPow, natAbs_10, natAbs_2, Int.cast_ofNat_Int, Nat.reducePow, exists_and_left, exists_const, and_assoc, true_and, and_true, and_self, false_and, and_false, if_true, if_false, ite_true, ite_false, reduceCtorEq, decide_true, decide_false, decide_eq_true_eq, decide_eq_false_iff_not, Bool.not_true, Bool.not_false, Bool.false_eq_true, List.replicate_zero, List.replicate_succ, List.map_cons, List.map_nil, List.nil_append, List.cons_append, Nat.reduceSub, Nat.reduceAdd, Nat.reduceLeDiff, Nat.reduceLT, Int.reduceLT, Int.reduceLE, Int.reduceAdd, Int.reduceSub, Int.reduceMul, Int.reduceNeg, Int.reduceMod, Int.reduceDiv, Int.reducePow, Int.reduceToNat, okD_int, okD_bl, okD_lst, okD_tup, okD_non, okL_nil, okL_cons, okD_str, okL_int, eqD_int, eqD_bl, eqD_str, eqD_tup, eqD_lst, eqL_cons, eqL_nil, eqL_cn, eqL_nc, eqL_int, Bool.and_eq_true, Bool.or_eq_true, Bool.not_eq_true', Bool.and_false, Bool.false_and, Bool.or_false, Bool.false_or, Bool.or_true, Bool.true_or, Bool.and_true, Bool.true_and, Bool.and_self, wIsT2, wDct0, wLstOf, wRepF, wAsgH, DV.hN, hIx, hCons, hNil, hTup, wLM, gCnt, gIdx, gList, gSorted, wDctO, wPar3, wAppPop, wRaise0, wRaise1, wTry, wIsE, wAct, wFl, flD, gAnyX, gSumX, wCatF, wSSet, wLstR1, wLstR2, wTupR1, wFld])
    refine ⟨by unfold big; omega, ?_⟩
    refine lc_map (fun x => .bl (within x 0 (m - 1))) (fun x hx K' hk => ?_) ?_
    · simp only [wSeq, wAsg, wOwn, wF, wLc, wSkip, wBrk, wCnt, wRet, wRetF, wRetN, wDrop, wIfS, wPar, wFor, wWh, wV, wApp, wExt, wSetIx, wAug, wVal, wLook, wC, wOp, wTst, wChain, wAnd, wOr, wNot, wAndV, wOrV, wNotV, wIf, wNil, wCons, wTup, wLst, wCall, wCB, wIsT, wiR1, wiR2, wiSq, wiEn, wiZip, gN, gT1, gT2, gT3, gT4, gT5, gT6, gT7, wYes, gAdd, DV.gSub, gMul, gMod, gDiv, gPow, gLt, gLe, gGt, gGe, gCmp, gEq, gNe, gIs, gIsN, DV.isNon, gIn, gNotIn, gIx, gSlc, wSlc, wNoP, wPart, gLen, gAbs, gInt, gMin2, gMax2, gAll, gAny, gSum, gTuple, wNeg, wRev, wRevX, itemsOf, D.isTy, D.isHand, Sl.toD, big_0, big_1, big_2, big_3, big_4, big_5, big_6, big_7, big_8, big_9, big_10, big_11, big_12, draw_iff, own_ex, val_ex, wipeE, restE, Sl.keep, Option.getD_some, get_z, get_s, set_z, set_s, List.length_cons, List.length_nil, atI_0, atI_1, atI_2, atI_3, atI_4, ixN_5_0, ixN_5_1, ixN_5_2, ixN_5_3, ixN_5_4, D.bl.injEq, D.int.injEq, D.lst.injEq, D.tup.injEq, D.str.injEq, Sl.own.injEq, Sl.val.injEq, Option.some.injEq, exists_eq_left', exists_eq_left, exists_eq', exists_eq, or_true, true_or, or_false, false_or, CMul, CPow, natAbs_10, natAbs_2, Int.cast_ofNat_Int, Nat.reducePow, exists_and_left, exists_const, and_assoc, true_and, and_true, and_self, false_and, and_false, if_true, if_false, ite_true, ite_false, reduceCtorEq, decide_true, decide_false, decide_eq_true_eq, decide_eq_false_iff_not, Bool.not_true, Bool.not_false, Bool.false_eq_true, List.replicate_zero, List.replicate_succ, List.map_cons, List.map_nil, List.nil_append, List.cons_append, Nat.reduceSub, Nat.reduceAdd, Nat.reduceLeDiff, Nat.reduceLT, Int.reduceLT, Int.reduceLE, Int.reduceAdd, Int.reduceSub, Int.reduceMul, Int.reduceNeg, Int.reduceMod, Int.reduceDiv, Int.reducePow, Int.reduceToNat, okD_int, okD_bl, okD_lst, okD_tup, okD_non, okL_nil, okL_cons, okD_str, okL_int, eqD_int, eqD_bl, eqD_str, eqD_tup, eqD_lst, eqL_cons, eqL_nil, eqL_cn, eqL_nc, eqL_int, Bool.and_eq_true, Bool.or_eq_true, Bool.not_eq_true', Bool.and_false, Bool.false_and, Bool.or_false, Bool.false_or, Bool.or_true, Bool.true_or, Bool.and_true, Bool.true_and, Bool.and_self, wIsT2, wDct0, wLstOf, wRepF, wAsgH, DV.hN, hIx, hCons, hNil, hTup, wLM, gCnt, gIdx, gList, gSorted, wDctO, wPar3, wAppPop, wRaise0, wRaise1, wTry, wIsE, wAct, wFl, flD, gAnyX, gSumX, wCatF, wSSet, wLstR1, wLstR2, wTupR1, wFld, sp_is_within (z2 x hx)]
      exact hk
    · (try simp only [wSeq, wAsg, wOwn, wF, wLc, wSkip, wBrk, wCnt, wRet, wRetF, wRetN, wDrop, wIfS, wPar, wFor, wWh, wV, wApp, wExt, wSetIx, wAug, wVal, wLook, wC, wOp, wTst, wChain, wAnd, wOr, wNot, wAndV, wOrV, wNotV, wIf, wNil, wCons, wTup, wLst, wCall, wCB, wIsT, wiR1, wiR2, wiSq, wiEn, wiZip, gN, gT1, gT2, gT3, gT4, gT5, gT6, gT7, wYes, gAdd, DV.gSub, gMul, gMod, gDiv, gPow, gLt, gLe, gGt, gGe, gCmp, gEq, gNe, gIs, gIsN, DV.isNon, gIn, gNotIn, gIx, gSlc, wSlc, wNoP, wPart, gLen, gAbs, gInt, gMin2, gMax2, gAll, gAny, gSum, gTuple, wNeg, wRev, wRevX, itemsOf, D.isTy, D.isHand, Sl.toD, big_0, big_1, big_2, big_3, big_4, big_5, big_6, big_7, big_8, big_9, big_10, big_11, big_12, draw_iff, own_ex, val_ex, wipeE, restE, Sl.keep, Option.getD_some, get_z, get_s, set_z, set_s, List.length_cons, List.length_nil, atI_0, atI_1, atI_2, atI_3, atI_4, ixN_5_0, ixN_5_1, ixN_5_2, ixN_5_3, ixN_5_4, D.bl.injEq, D.int.injEq, D.lst.injEq, D.tup.injEq, D.str.injEq, Sl.own.injEq, Sl.val.injEq, Option.some.injEq, exists_eq_left', exists_eq_left, exists_eq', exists_eq, or_true, true_or, or_false, false_or, CMul, CPow, natAbs_10, natAbs_2, Int.cast_ofNat_Int, Nat.reducePow, exists_and_left, exists_const, and_assoc, true_and, and_true, and_self, false_and, and_false, if_true, if_false, ite_true, ite_false, reduceCtorEq, decide_true, decide_false, decide_eq_true_eq, decide_eq_false_iff_not, Bool.not_true, Bool.not_false, Bool.false_eq_true, List.replicate_zero, List.replicate_succ, List.map_cons, List.map_nil, List.nil_append, List.cons_append, Nat.reduceSub, Nat.reduceAdd, Nat.reduceLeDiff, Nat.reduceLT, Int.reduceLT, Int.reduceLE, Int.reduceAdd, Int.reduceSub, Int.reduceMul, Int.reduceNeg, Int.reduceMod, Int.reduceDiv, Int.reducePow, Int.reduceToNat, okD_int, okD_bl, okD_lst, okD_tup, okD_non, okL_nil, okL_cons, okD_str, okL_int, eqD_int, eqD_bl, eqD_str, eqD_tup, eqD_lst, eqL_cons, eqL_nil, eqL_cn, eqL_nc, eqL_int, Bool.and_eq_true, Bool.or_eq_true, Bool.not_eq_true', Bool.and_false, Bool.false_and, Bool.or_false, Bool.false_or, Bool.or_true, Bool.true_or, Bool.and_true, Bool.true_and, Bool.and_self, wIsT2, wDct0, wLstOf, wRepF, wAsgH, DV.hN, hIx, hCons, hNil, hTup, wLM, gCnt, gIdx, gList, gSorted, wDctO, wPar3, wAppPop, wRaise0, wRaise1, wTry, wIsE, wAct, wFl, flD, gAnyX, gSumX, wCatF, wSSet, wLstR1, wLstR2, wTupR1, wFld])
      refine fun _ => ⟨_, toBs_of _ _, ?_⟩
      rw [all_id]
      exact hq
  | hand => cases h1
  | frz _ => cases h1
  | fn _ => cases h1
  | obj _ _ => cases h1
  | _ =>
    (try simp only [wSeq, wAsg, wOwn, wF, wLc, wSkip, wBrk, wCnt, wRet, wRetF, wRetN, wDrop, wIfS, wPar, wFor, wWh, wV, wApp, wExt, wSetIx, wAug, wVal, wLook, wC, wOp, wTst, wChain, wAnd, wOr, wNot, wAndV, wOrV, wNotV, wIf, wNil, wCons, wTup, wLst, wCall, wCB, wIsT, wiR1, wiR2, wiSq, wiEn, wiZip, gN, gT1, gT2, gT3, gT4, gT5, gT6, gT7, wYes, gAdd, DV.gSub, gMul, gMod, gDiv, gPow, gLt, gLe, gGt, gGe, gCmp, gEq, gNe, gIs, gIsN, DV.isNon, gIn, gNotIn, gIx, gSlc, wSlc, wNoP, wPart, gLen, gAbs, gInt, gMin2, gMax2, gAll, gAny, gSum, gTuple, wNeg, wRev, wRevX, itemsOf, D.isTy, D.isHand, Sl.toD, big_0, big_1, big_2, big_3, big_4, big_5, big_6, big_7, big_8, big_9, big_10, big_11, big_12, draw_iff, own_ex, val_ex, wipeE, restE, Sl.keep, Option.getD_some, get_z, get_s, set_z, set_s, List.length_cons, List.length_nil, atI_0, atI_1, atI_2, atI_3, atI_4, ixN_5_0, ixN_5_1, ixN_5_2, ixN_5_3, ixN_5_4, D.bl.injEq, D.int.injEq, D.lst.injEq, D.tup.injEq, D.str.injEq, Sl.own.injEq, Sl.val.injEq, Option.some.injEq, exists_eq_left', exists_eq_left, exists_eq', exists_eq, or_true, true_or, or_false, false_or, CMul, CPow, natAbs_10, natAbs_2, Int.cast_ofNat_Int, Nat.reducePow, exists_and_left, exists_const, and_assoc, true_and, and_true, and_self, false_and, and_false, if_true, if_false, ite_true, ite_false, reduceCtorEq, decide_true, decide_false, decide_eq_true_eq, decide_eq_false_iff_not, Bool.not_true, Bool.not_false, Bool.false_eq_true, List.replicate_zero, List.replicate_succ, List.map_cons, List.map_nil, List.nil_append, List.cons_append, Nat.reduceSub, Nat.reduceAdd, Nat.reduceLeDiff, Nat.reduceLT, Int.reduceLT, Int.reduceLE, Int.reduceAdd, Int.reduceSub, Int.reduceMul, Int.reduceNeg, Int.reduceMod, Int.reduceDiv, Int.reducePow, Int.reduceToNat, okD_int, okD_bl, okD_lst, okD_tup, okD_non, okL_nil, okL_cons, okD_str, okL_int, eqD_int, eqD_bl, eqD_str, eqD_tup, eqD_lst, eqL_cons, eqL_nil, eqL_cn, eqL_nc, eqL_int, Bool.and_eq_true, Bool.or_eq_true, Bool.not_eq_true', Bool.and_false, Bool.false_and, Bool.or_false, Bool.false_or, Bool.or_true, Bool.true_or, Bool.and_true, Bool.true_and, Bool.and_self, wIsT2, wDct0, wLstOf, wRepF, wAsgH, DV.hN, hIx, hCons, hNil, hTup, wLM, gCnt, gIdx, gList, gSorted, wDctO, wPar3, wAppPop, wRaise0, wRaise1, wTry, wIsE, wAct, wFl, flD, gAnyX, gSumX, wCatF, wSSet, wLstR1, wLstR2, wTupR1, wFld])
    exact hq
/-- the tables of a scheme -/
structure SchOk (s m : Int) (R : List (List (List Int))) : Prop where
  s1 : 2 ≤ s
  s2 : s ≤ 36
  m1 : 1 ≤ m
  m2 : m ≤ 200
  r1 : 1 ≤ R.length
  r2 : R.length ≤ 24
  tab : ∀ t ∈ R, (t.length : Int) = m ∧ ∀ row ∈ t, (row.length : Int) = s ∧ ∀ x ∈ row, 0 ≤ x ∧ x < m
def dTab (t : List (List Int)) : D := .tup (t.map dT)
def dR (R : List (List (List Int))) : D := .tup (R.map dTab)
def dSch (s m : Int) (R : List (List (List Int))) : D := .obj "Scheme" [("signs", .int s), ("states", .int m), ("rounds", dR R)]
theorem fld_signs {s m : Int} {R : List (List (List Int))} : fldIs (dSch s m R) "signs" Q ↔ Q (.int s) := by
  constructor
  · rintro ⟨c, fs, x, e, h1, h2⟩
    unfold dSch at e
    injection e with e1 e2
    subst e2
    cases h1
    exact h2
  · exact fun h => ⟨_, _, _, rfl, rfl, h⟩
theorem fld_states {s m : Int} {R : List (List (List Int))} : fldIs (dSch s m R) "states" Q ↔ Q (.int m) := by
  constructor
  · rintro ⟨c, fs, x, e, h1, h2⟩
    unfold dSch at e
    injection e with e1 e2
    subst e2
    cases h1
    exact h2
  · exact fun h => ⟨_, _, _, rfl, rfl, h⟩
theorem fld_rounds {s m : Int} {R : List (List (List Int))} : fldIs (dSch s m R) "rounds" Q ↔ Q (dR R) := by
  constructor
  · rintro ⟨c, fs, x, e, h1, h2⟩
    unfold dSch at e
    injection e with e1 e2
    subst e2
    cases h1
    exact h2
  · exact fun h => ⟨_, _, _, rfl, rfl, h⟩
theorem wi_int {x lo hi : Int} (h1 : lo ≤ x) (h2 : x ≤ hi) : within (.int x) lo hi = true := by
  show (decide (lo ≤ x) && decide (x ≤ hi)) = true
  rw [decide_eq_true h1, decide_eq_true h2]; rfl
theorem below_ints {m : Int} {l : List Int} (h : ∀ x ∈ l, 0 ≤ x ∧ x < m) : belowD m (.tup (l.map D.int)) = true := by
  show (l.map D.int).all (fun x => within x 0 (m - 1)) = true
  rw [List.all_eq_true]
  intro x hx
  obtain ⟨y, hy, rfl⟩ := List.mem_map.mp hx
  have := h y hy
  exact wi_int (by omega) (by omega)
theorem sz_map {α : Type} {f : α → D} {l : List α} {lo hi : Int} (h1 : lo ≤ l.length) (h2 : (l.length : Int) ≤ hi) : szD lo hi (.tup (l.map f)) = true := by
  show (decide (lo ≤ ((l.map f).length : Int)) && decide (((l.map f).length : Int) ≤ hi)) = true
  rw [List.length_map, decide_eq_true h1, decide_eq_true h2]; rfl
theorem tp_map {α : Type} {f : α → D} {l : List α} {n : Int} (h : (l.length : Int) = n) : tpD n (.tup (l.map f)) = true := by
  show decide (((l.map f).length : Int) = n) = true
  rw [List.length_map]
  exact decide_eq_true h
theorem all_true {α : Type} {f : α → D} {g : D → Bool} {l : List α} (h : ∀ x ∈ l, g (f x) = true) : (l.map f).all g = true := by
  rw [List.all_eq_true]
  intro x hx
  obtain ⟨y, hy, rfl⟩ := List.mem_map.mp hx
  exact h y hy
theorem sp_Scheme {s m : Int} {R : List (List (List Int))} (o : SchOk s m R) (hq : Q (dSch s m R)) : T_Scheme [.int s, .int m, dR R] Q E := by
  obtain ⟨s1, s2, m1, m2, r1, r2, tab⟩ := o
  rw [T_Scheme_eq]
  unfold wInit B_Scheme
  intro x
  simp only [wSeq, wAsg, wOwn, wF, wLc, wSkip, wBrk, wCnt, wRet, wRetF, wRetN, wDrop, wIfS, wPar, wFor, wWh, wV, wApp, wExt, wSetIx, wAug, wVal, wLook, wC, wOp, wTst, wChain, wAnd, wOr, wNot, wAndV, wOrV, wNotV, wIf, wNil, wCons, wTup, wLst, wCall, wCB, wIsT, wiR1, wiR2, wiSq, wiEn, wiZip, gN, gT1, gT2, gT3, gT4, gT5, gT6, gT7, wYes, gAdd, DV.gSub, gMul, gMod, gDiv, gPow, gLt, gLe, gGt, gGe, gCmp, gEq, gNe, gIs, gIsN, DV.isNon, gIn, gNotIn, gIx, gSlc, wSlc, wNoP, wPart, gLen, gAbs, gInt, gMin2, gMax2, gAll, gAny, gSum, gTuple, wNeg, wRev, wRevX, itemsOf, D.isTy, D.isHand, Sl.toD, big_0, big_1, big_2, big_3, big_4, big_5, big_6, big_7, big_8, big_9, big_10, big_11, big_12, draw_iff, own_ex, val_ex, wipeE, restE, Sl.keep, Option.getD_some, get_z, get_s, set_z, set_s, List.length_cons, List.length_nil, atI_0, atI_1, atI_2, atI_3, atI_4, ixN_5_0, ixN_5_1, ixN_5_2, ixN_5_3, ixN_5_4, D.bl.injEq, D.int.injEq, D.lst.injEq, D.tup.injEq, D.str.injEq, Sl.own.injEq, Sl.val.injEq, Option.some.injEq, exists_eq_left', exists_eq_left, exists_eq', exists_eq, or_true, true_or, or_false, false_or, CMul, CPow, natAbs_10, natAbs_2, Int.cast_ofNat_Int, Nat.reducePow, exists_and_left, exists_const, and_assoc, true_and, and_true, and_self, false_and, and_false, if_true, if_false, ite_true, ite_false, reduceCtorEq, decide_true, decide_false, decide_eq_true_eq, decide_eq_false_iff_not, Bool.not_true, Bool.not_false, Bool.false_eq_true, List.replicate_zero, List.replicate_succ, List.map_cons, List.map_nil, List.nil_append, List.cons_append, Nat.reduceSub, Nat.reduceAdd, Nat.reduceLeDiff, Nat.reduceLT, Int.reduceLT, Int.reduceLE, Int.reduceAdd, Int.reduceSub, Int.reduceMul, Int.reduceNeg, Int.reduceMod, Int.reduceDiv, Int.reducePow, Int.reduceToNat, okD_int, okD_bl, okD_lst, okD_tup, okD_non, okL_nil, okL_cons, okD_str, okL_int, eqD_int, eqD_bl, eqD_str, eqD_tup, eqD_lst, eqL_cons, eqL_nil, eqL_cn, eqL_nc, eqL_int, Bool.and_eq_true, Bool.or_eq_true, Bool.not_eq_true', Bool.and_false, Bool.false_and, Bool.or_false, Bool.false_or, Bool.or_true, Bool.true_or, Bool.and_true, Bool.true_and, Bool.and_self, wIsT2, wDct0, wLstOf, wRepF, wAsgH, DV.hN, hIx, hCons, hNil, hTup, wLM, gCnt, gIdx, gList, gSorted, wDctO, wPar3, wAppPop, wRaise0, wRaise1, wTry, wIsE, wAct, wFl, flD, gAnyX, gSumX, wCatF, wSSet, wLstR1, wLstR2, wTupR1, wFld, sp_is_within (x := .int s) rfl, wi_int s1 s2]
  unfold B_Scheme_1001
  simp only [wSeq, wAsg, wOwn, wF, wLc, wSkip, wBrk, wCnt, wRet, wRetF, wRetN, wDrop, wIfS, wPar, wFor, wWh, wV, wApp, wExt, wSetIx, wAug, wVal, wLook, wC, wOp, wTst, wChain, wAnd, wOr, wNot, wAndV, wOrV, wNotV, wIf, wNil, wCons, wTup, wLst, wCall, wCB, wIsT, wiR1, wiR2, wiSq, wiEn, wiZip, gN, gT1, gT2, gT3, gT4, gT5, gT6, gT7, wYes, gAdd, DV.gSub, gMul, gMod, gDiv, gPow, gLt, gLe, gGt, gGe, gCmp, gEq, gNe, gIs, gIsN, DV.isNon, gIn, gNotIn, gIx, gSlc, wSlc, wNoP, wPart, gLen, gAbs, gInt, gMin2, gMax2, gAll, gAny, gSum, gTuple, wNeg, wRev, wRevX, itemsOf, D.isTy, D.isHand, Sl.toD, big_0, big_1, big_2, big_3, big_4, big_5, big_6, big_7, big_8, big_9, big_10, big_11, big_12, draw_iff, own_ex, val_ex, wipeE, restE, Sl.keep, Option.getD_some, get_z, get_s, set_z, set_s, List.length_cons, List.length_nil, atI_0, atI_1, atI_2, atI_3, atI_4, ixN_5_0, ixN_5_1, ixN_5_2, ixN_5_3, ixN_5_4, D.bl.injEq, D.int.injEq, D.lst.injEq, D.tup.injEq, D.str.injEq, Sl.own.injEq, Sl.val.injEq, Option.some.injEq, exists_eq_left', exists_eq_left, exists_eq', exists_eq, or_true, true_or, or_false, false_or, CMul, CPow, natAbs_10, natAbs_2, Int.cast_ofNat_Int, Nat.reducePow, exists_and_left, exists_const, and_assoc, true_and, and_true, and_self, false_and, and_false, if_true, if_false, ite_true, ite_false, reduceCtorEq, decide_true, decide_false, decide_eq_true_eq, decide_eq_false_iff_not, Bool.not_true, Bool.not_false, Bool.false_eq_true, List.replicate_zero, List.replicate_succ, List.map_cons, List.map_nil, List.nil_append, List.cons_append, Nat.reduceSub, Nat.reduceAdd, Nat.reduceLeDiff, Nat.reduceLT, Int.reduceLT, Int.reduceLE, Int.reduceAdd, Int.reduceSub, Int.reduceMul, Int.reduceNeg, Int.reduceMod, Int.reduceDiv, Int.reducePow, Int.reduceToNat, okD_int, okD_bl, okD_lst, okD_tup, okD_non, okL_nil, okL_cons, okD_str, okL_int, eqD_int, eqD_bl, eqD_str, eqD_tup, eqD_lst, eqL_cons, eqL_nil, eqL_cn, eqL_nc, eqL_int, Bool.and_eq_true, Bool.or_eq_true, Bool.not_eq_true', Bool.and_false, Bool.false_and, Bool.or_false, Bool.false_or, Bool.or_true, Bool.true_or, Bool.and_true, Bool.true_and, Bool.and_self, wIsT2, wDct0, wLstOf, wRepF, wAsgH, DV.hN, hIx, hCons, hNil, hTup, wLM, gCnt, gIdx, gList, gSorted, wDctO, wPar3, wAppPop, wRaise0, wRaise1, wTry, wIsE, wAct, wFl, flD, gAnyX, gSumX, wCatF, wSSet, wLstR1, wLstR2, wTupR1, wFld, sp_is_within (x := .int m) rfl, wi_int m1 m2]
  unfold B_Scheme_1003
  have pl : plain1 (dR R) = true := rfl
  have ll : ∀ xs, dR R = .tup xs → xs.length ≤ 1000 := fun xs e => by
    unfold dR at e
    cases e
    rw [List.length_map]; omega
  simp only [wSeq, wAsg, wOwn, wF, wLc, wSkip, wBrk, wCnt, wRet, wRetF, wRetN, wDrop, wIfS, wPar, wFor, wWh, wV, wApp, wExt, wSetIx, wAug, wVal, wLook, wC, wOp, wTst, wChain, wAnd, wOr, wNot, wAndV, wOrV, wNotV, wIf, wNil, wCons, wTup, wLst, wCall, wCB, wIsT, wiR1, wiR2, wiSq, wiEn, wiZip, gN, gT1, gT2, gT3, gT4, gT5, gT6, gT7, wYes, gAdd, DV.gSub, gMul, gMod, gDiv, gPow, gLt, gLe, gGt, gGe, gCmp, gEq, gNe, gIs, gIsN, DV.isNon, gIn, gNotIn, gIx, gSlc, wSlc, wNoP, wPart, gLen, gAbs, gInt, gMin2, gMax2, gAll, gAny, gSum, gTuple, wNeg, wRev, wRevX, itemsOf, D.isTy, D.isHand, Sl.toD, big_0, big_1, big_2, big_3, big_4, big_5, big_6, big_7, big_8, big_9, big_10, big_11, big_12, draw_iff, own_ex, val_ex, wipeE, restE, Sl.keep, Option.getD_some, get_z, get_s, set_z, set_s, List.length_cons, List.length_nil, atI_0, atI_1, atI_2, atI_3, atI_4, ixN_5_0, ixN_5_1, ixN_5_2, ixN_5_3, ixN_5_4, D.bl.injEq, D.int.injEq, D.lst.injEq, D.tup.injEq, D.str.injEq, Sl.own.injEq, Sl.val.injEq, Option.some.injEq, exists_eq_left', exists_eq_left, exists_eq', exists_eq, or_true, true_or, or_false, false_or, CMul, CPow, natAbs_10, natAbs_2, Int.cast_ofNat_Int, Nat.reducePow, exists_and_left, exists_const, and_assoc, true_and, and_true, and_self, false_and, and_false, if_true, if_false, ite_true, ite_false, reduceCtorEq, decide_true, decide_false, decide_eq_true_eq, decide_eq_false_iff_not, Bool.not_true, Bool.not_false, Bool.false_eq_true, List.replicate_zero, List.replicate_succ, List.map_cons, List.map_nil, List.nil_append, List.cons_append, Nat.reduceSub, Nat.reduceAdd, Nat.reduceLeDiff, Nat.reduceLT, Int.reduceLT, Int.reduceLE, Int.reduceAdd, Int.reduceSub, Int.reduceMul, Int.reduceNeg, Int.reduceMod, Int.reduceDiv, Int.reducePow, Int.reduceToNat, okD_int, okD_bl, okD_lst, okD_tup, okD_non, okL_nil, okL_cons, okD_str, okL_int, eqD_int, eqD_bl, eqD_str, eqD_tup, eqD_lst, eqL_cons, eqL_nil, eqL_cn, eqL_nc, eqL_int, Bool.and_eq_true, Bool.or_eq_true, Bool.not_eq_true', Bool.and_false, Bool.false_and, Bool.or_false, Bool.false_or, Bool.or_true, Bool.true_or, Bool.and_true, Bool.true_and, Bool.and_self, wIsT2, wDct0, wLstOf, wRepF, wAsgH, DV.hN, hIx, hCons, hNil, hTup, wLM, gCnt, gIdx, gList, gSorted, wDctO, wPar3, wAppPop, wRaise0, wRaise1, wTry, wIsE, wAct, wFl, flD, gAnyX, gSumX, wCatF, wSSet, wLstR1, wLstR2, wTupR1, wFld, sp_is_sized pl ll]
  have e1 : szD 1 24 (dR R) = true := by unfold dR; exact sz_map (by omega) (by omega)
  rw [e1]
  unfold dR
  simp only [wSeq, wAsg, wOwn, wF, wLc, wSkip, wBrk, wCnt, wRet, wRetF, wRetN, wDrop, wIfS, wPar, wFor, wWh, wV, wApp, wExt, wSetIx, wAug, wVal, wLook, wC, wOp, wTst, wChain, wAnd, wOr, wNot, wAndV, wOrV, wNotV, wIf, wNil, wCons, wTup, wLst, wCall, wCB, wIsT, wiR1, wiR2, wiSq, wiEn, wiZip, gN, gT1, gT2, gT3, gT4, gT5, gT6, gT7, wYes, gAdd, DV.gSub, gMul, gMod, gDiv, gPow, gLt, gLe, gGt, gGe, gCmp, gEq, gNe, gIs, gIsN, DV.isNon, gIn, gNotIn, gIx, gSlc, wSlc, wNoP, wPart, gLen, gAbs, gInt, gMin2, gMax2, gAll, gAny, gSum, gTuple, wNeg, wRev, wRevX, itemsOf, D.isTy, D.isHand, Sl.toD, big_0, big_1, big_2, big_3, big_4, big_5, big_6, big_7, big_8, big_9, big_10, big_11, big_12, draw_iff, own_ex, val_ex, wipeE, restE, Sl.keep, Option.getD_some, get_z, get_s, set_z, set_s, List.length_cons, List.length_nil, atI_0, atI_1, atI_2, atI_3, atI_4, ixN_5_0, ixN_5_1, ixN_5_2, ixN_5_3, ixN_5_4, D.bl.injEq, D.int.injEq, D.lst.injEq, D.tup.injEq, D.str.injEq, Sl.own.injEq, Sl.val.injEq, Option.some.injEq, exists_eq_left', exists_eq_left, exists_eq', exists_eq, or_true, true_or, or_false, false_or, CMul, CPow, natAbs_10, natAbs_2, Int.cast_ofNat_Int, Nat.reducePow, exists_and_left, exists_const, and_assoc, true_and, and_true, and_self, false_and, and_false, if_true, if_false, ite_true, ite_false, reduceCtorEq, decide_true, decide_false, decide_eq_true_eq, decide_eq_false_iff_not, Bool.not_true, Bool.not_false, Bool.false_eq_true, List.replicate_zero, List.replicate_succ, List.map_cons, List.map_nil, List.nil_append, List.cons_append, Nat.reduceSub, Nat.reduceAdd, Nat.reduceLeDiff, Nat.reduceLT, Int.reduceLT, Int.reduceLE, Int.reduceAdd, Int.reduceSub, Int.reduceMul, Int.reduceNeg, Int.reduceMod, Int.reduceDiv, Int.reducePow, Int.reduceToNat, okD_int, okD_bl, okD_lst, okD_tup, okD_non, okL_nil, okL_cons, okD_str, okL_int, eqD_int, eqD_bl, eqD_str, eqD_tup, eqD_lst, eqL_cons, eqL_nil, eqL_cn, eqL_nc, eqL_int, Bool.and_eq_true, Bool.or_eq_true, Bool.not_eq_true', Bool.and_false, Bool.false_and, Bool.or_false, Bool.false_or, Bool.or_true, Bool.true_or, Bool.and_true, Bool.true_and, Bool.and_self, wIsT2, wDct0, wLstOf, wRepF, wAsgH, DV.hN, hIx, hCons, hNil, hTup, wLM, gCnt, gIdx, gList, gSorted, wDctO, wPar3, wAppPop, wRaise0, wRaise1, wTry, wIsE, wAct, wFl, flD, gAnyX, gSumX, wCatF, wSSet, wLstR1, wLstR2, wTupR1, wFld, List.length_map]
  refine ⟨by unfold big; omega, ?_⟩
  refine lc_map (fun t => .bl (tpD m t)) (fun t ht K' hk => ?_) ?_
  · obtain ⟨t, ht2, rfl⟩ := List.mem_map.mp ht
    have := (tab t ht2).1
    unfold dTab at hk ⊢
    (try simp only [wSeq, wAsg, wOwn, wF, wLc, wSkip, wBrk, wCnt, wRet, wRetF, wRetN, wDrop, wIfS, wPar, wFor, wWh, wV, wApp, wExt, wSetIx, wAug, wVal, wLook, wC, wOp, wTst, wChain, wAnd, wOr, wNot, wAndV, wOrV, wNotV, wIf, wNil, wCons, wTup, wLst, wCall, wCB, wIsT, wiR1, wiR2, wiSq, wiEn, wiZip, gN, gT1, gT2, gT3, gT4, gT5, gT6, gT7, wYes, gAdd, DV.gSub, gMul, gMod, gDiv, gPow, gLt, gLe, gGt, gGe, gCmp, gEq, gNe, gIs, gIsN, DV.isNon, gIn, gNotIn, gIx, gSlc, wSlc, wNoP, wPart, gLen, gAbs, gInt, gMin2, gMax2, gAll, gAny, gSum, gTuple, wNeg, wRev, wRevX, itemsOf, D.isTy, D.isHand, Sl.toD, big_0, big_1, big_2, big_3, big_4, big_5, big_6, big_7, big_8, big_9, big_10, big_11, big_12, draw_iff, own_ex, val_ex, wipeE, restE, Sl.keep, Option.getD_some, get_z, get_s, set_z, set_s, List.length_cons, List.length_nil, atI_0, atI_1, atI_2, atI_3, atI_4, ixN_5_0, ixN_5_1, ixN_5_2, ixN_5_3, ixN_5_4, D.bl.injEq, D.int.injEq, D.lst.injEq, D.tup.injEq, D.str.injEq, Sl.own.injEq, Sl.val.injEq, Option.some.injEq, exists_eq_left', exists_eq_left, exists_eq', exists_eq, or_true, true_or, or_false, false_or, CMul, CPow, natAbs_10, natAbs_2, Int.cast_ofNat_Int, Nat.reducePow, exists_and_left, exists_const, and_assoc, true_and, and_true, and_self, false_and, and_false, if_true, if_false, ite_true, ite_false, reduceCtorEq, decide_true, decide_false, decide_eq_true_eq, decide_eq_false_iff_not, Bool.not_true, Bool.not_false, Bool.false_eq_true, List.replicate_zero, List.replicate_succ, List.map_cons, List.map_nil, List.nil_append, List.cons_append, Nat.reduceSub, Nat.reduceAdd, Nat.reduceLeDiff, Nat.reduceLT, Int.reduceLT, Int.reduceLE, Int.reduceAdd, Int.reduceSub, Int.reduceMul, Int.reduceNeg, Int.reduceMod, Int.reduceDiv, Int.reducePow, Int.reduceToNat, okD_int, okD_bl, okD_lst, okD_tup, okD_non, okL_nil, okL_cons, okD_str, okL_int, eqD_int, eqD_bl, eqD_str, eqD_tup, eqD_lst, eqL_cons, eqL_nil, eqL_cn, eqL_nc, eqL_int, Bool.and_eq_true, Bool.or_eq_true, Bool.not_eq_true', Bool.and_false, Bool.false_and, Bool.or_false, Bool.false_or, Bool.or_true, Bool.true_or, Bool.and_true, Bool.true_and, Bool.and_self, wIsT2, wDct0, wLstOf, wRepF, wAsgH, DV.hN, hIx, hCons, hNil, hTup, wLM, gCnt, gIdx, gList, gSorted, wDctO, wPar3, wAppPop, wRaise0, wRaise1, wTry, wIsE, wAct, wFl, flD, gAnyX, gSumX, wCatF, wSSet, wLstR1, wLstR2, wTupR1, wFld])
    rw [sp_is_tuple rfl (fun xs e => by cases e; rw [List.length_map]; omega)]
    exact hk
  · (try simp only [wSeq, wAsg, wOwn, wF, wLc, wSkip, wBrk, wCnt, wRet, wRetF, wRetN, wDrop, wIfS, wPar, wFor, wWh, wV, wApp, wExt, wSetIx, wAug, wVal, wLook, wC, wOp, wTst, wChain, wAnd, wOr, wNot, wAndV, wOrV, wNotV, wIf, wNil, wCons, wTup, wLst, wCall, wCB, wIsT, wiR1, wiR2, wiSq, wiEn, wiZip, gN, gT1, gT2, gT3, gT4, gT5, gT6, gT7, wYes, gAdd, DV.gSub, gMul, gMod, gDiv, gPow, gLt, gLe, gGt, gGe, gCmp, gEq, gNe, gIs, gIsN, DV.isNon, gIn, gNotIn, gIx, gSlc, wSlc, wNoP, wPart, gLen, gAbs, gInt, gMin2, gMax2, gAll, gAny, gSum, gTuple, wNeg, wRev, wRevX, itemsOf, D.isTy, D.isHand, Sl.toD, big_0, big_1, big_2, big_3, big_4, big_5, big_6, big_7, big_8, big_9, big_10, big_11, big_12, draw_iff, own_ex, val_ex, wipeE, restE, Sl.keep, Option.getD_some, get_z, get_s, set_z, set_s, List.length_cons, List.length_nil, atI_0, atI_1, atI_2, atI_3, atI_4, ixN_5_0, ixN_5_1, ixN_5_2, ixN_5_3, ixN_5_4, D.bl.injEq, D.int.injEq, D.lst.injEq, D.tup.injEq, D.str.injEq, Sl.own.injEq, Sl.val.injEq, Option.some.injEq, exists_eq_left', exists_eq_left, exists_eq', exists_eq, or_true, true_or, or_false, false_or, CMul, CPow, natAbs_10, natAbs_2, Int.cast_ofNat_Int, Nat.reducePow, exists_and_left, exists_const, and_assoc, true_and, and_true, and_self, false_and, and_false, if_true, if_false, ite_true, ite_false, reduceCtorEq, decide_true, decide_false, decide_eq_true_eq, decide_eq_false_iff_not, Bool.not_true, Bool.not_false, Bool.false_eq_true, List.replicate_zero, List.replicate_succ, List.map_cons, List.map_nil, List.nil_append, List.cons_append, Nat.reduceSub, Nat.reduceAdd, Nat.reduceLeDiff, Nat.reduceLT, Int.reduceLT, Int.reduceLE, Int.reduceAdd, Int.reduceSub, Int.reduceMul, Int.reduceNeg, Int.reduceMod, Int.reduceDiv, Int.reducePow, Int.reduceToNat, okD_int, okD_bl, okD_lst, okD_tup, okD_non, okL_nil, okL_cons, okD_str, okL_int, eqD_int, eqD_bl, eqD_str, eqD_tup, eqD_lst, eqL_cons, eqL_nil, eqL_cn, eqL_nc, eqL_int, Bool.and_eq_true, Bool.or_eq_true, Bool.not_eq_true', Bool.and_false, Bool.false_and, Bool.or_false, Bool.false_or, Bool.or_true, Bool.true_or, Bool.and_true, Bool.true_and, Bool.and_self, wIsT2, wDct0, wLstOf, wRepF, wAsgH, DV.hN, hIx, hCons, hNil, hTup, wLM, gCnt, gIdx, gList, gSorted, wDctO, wPar3, wAppPop, wRaise0, wRaise1, wTry, wIsE, wAct, wFl, flD, gAnyX, gSumX, wCatF, wSSet, wLstR1, wLstR2, wTupR1, wFld])
    refine fun _ => ⟨_, toBs_of _ _, ?_⟩
    rw [all_id, all_true fun t ht => by unfold dTab; exact tp_map (tab t ht).1]
    rw [if_neg (by simp)]
    unfold B_Scheme_1005
    (try simp only [wSeq, wAsg, wOwn, wF, wLc, wSkip, wBrk, wCnt, wRet, wRetF, wRetN, wDrop, wIfS, wPar, wFor, wWh, wV, wApp, wExt, wSetIx, wAug, wVal, wLook, wC, wOp, wTst, wChain, wAnd, wOr, wNot, wAndV, wOrV, wNotV, wIf, wNil, wCons, wTup, wLst, wCall, wCB, wIsT, wiR1, wiR2, wiSq, wiEn, wiZip, gN, gT1, gT2, gT3, gT4, gT5, gT6, gT7, wYes, gAdd, DV.gSub, gMul, gMod, gDiv, gPow, gLt, gLe, gGt, gGe, gCmp, gEq, gNe, gIs, gIsN, DV.isNon, gIn, gNotIn, gIx, gSlc, wSlc, wNoP, wPart, gLen, gAbs, gInt, gMin2, gMax2, gAll, gAny, gSum, gTuple, wNeg, wRev, wRevX, itemsOf, D.isTy, D.isHand, Sl.toD, big_0, big_1, big_2, big_3, big_4, big_5, big_6, big_7, big_8, big_9, big_10, big_11, big_12, draw_iff, own_ex, val_ex, wipeE, restE, Sl.keep, Option.getD_some, get_z, get_s, set_z, set_s, List.length_cons, List.length_nil, atI_0, atI_1, atI_2, atI_3, atI_4, ixN_5_0, ixN_5_1, ixN_5_2, ixN_5_3, ixN_5_4, D.bl.injEq, D.int.injEq, D.lst.injEq, D.tup.injEq, D.str.injEq, Sl.own.injEq, Sl.val.injEq, Option.some.injEq, exists_eq_left', exists_eq_left, exists_eq', exists_eq, or_true, true_or, or_false, false_or, CMul, CPow, natAbs_10, natAbs_2, Int.cast_ofNat_Int, Nat.reducePow, exists_and_left, exists_const, and_assoc, true_and, and_true, and_self, false_and, and_false, if_true, if_false, ite_true, ite_false, reduceCtorEq, decide_true, decide_false, decide_eq_true_eq, decide_eq_false_iff_not, Bool.not_true, Bool.not_false, Bool.false_eq_true, List.replicate_zero, List.replicate_succ, List.map_cons, List.map_nil, List.nil_append, List.cons_append, Nat.reduceSub, Nat.reduceAdd, Nat.reduceLeDiff, Nat.reduceLT, Int.reduceLT, Int.reduceLE, Int.reduceAdd, Int.reduceSub, Int.reduceMul, Int.reduceNeg, Int.reduceMod, Int.reduceDiv, Int.reducePow, Int.reduceToNat, okD_int, okD_bl, okD_lst, okD_tup, okD_non, okL_nil, okL_cons, okD_str, okL_int, eqD_int, eqD_bl, eqD_str, eqD_tup, eqD_lst, eqL_cons, eqL_nil, eqL_cn, eqL_nc, eqL_int, Bool.and_eq_true, Bool.or_eq_true, Bool.not_eq_true', Bool.and_false, Bool.false_and, Bool.or_false, Bool.false_or, Bool.or_true, Bool.true_or, Bool.and_true, Bool.true_and, Bool.and_self, wIsT2, wDct0, wLstOf, wRepF, wAsgH, DV.hN, hIx, hCons, hNil, hTup, wLM, gCnt, gIdx, gList, gSorted, wDctO, wPar3, wAppPop, wRaise0, wRaise1, wTry, wIsE, wAct, wFl, flD, gAnyX, gSumX, wCatF, wSSet, wLstR1, wLstR2, wTupR1, wFld])
    refine for_ind (fun rest env => ∃ (ts : List (List (List Int))) (s4 : Sl), rest = ts.map dTab ∧ (∀ t ∈ ts, t ∈ R) ∧ env = [.pin x none [], .val (.int s), .val (.int m), .val (.tup (R.map dTab)), s4, .no]) (fun env hI => ?_) (fun d rest env hI nx hn => ?_) ⟨R, _, rfl, fun t h => h, rfl⟩
    · obtain ⟨ts, s4, e, hts, rfl⟩ := hI
      (try simp only [wSeq, wAsg, wOwn, wF, wLc, wSkip, wBrk, wCnt, wRet, wRetF, wRetN, wDrop, wIfS, wPar, wFor, wWh, wV, wApp, wExt, wSetIx, wAug, wVal, wLook, wC, wOp, wTst, wChain, wAnd, wOr, wNot, wAndV, wOrV, wNotV, wIf, wNil, wCons, wTup, wLst, wCall, wCB, wIsT, wiR1, wiR2, wiSq, wiEn, wiZip, gN, gT1, gT2, gT3, gT4, gT5, gT6, gT7, wYes, gAdd, DV.gSub, gMul, gMod, gDiv, gPow, gLt, gLe, gGt, gGe, gCmp, gEq, gNe, gIs, gIsN, DV.isNon, gIn, gNotIn, gIx, gSlc, wSlc, wNoP, wPart, gLen, gAbs, gInt, gMin2, gMax2, gAll, gAny, gSum, gTuple, wNeg, wRev, wRevX, itemsOf, D.isTy, D.isHand, Sl.toD, big_0, big_1, big_2, big_3, big_4, big_5, big_6, big_7, big_8, big_9, big_10, big_11, big_12, draw_iff, own_ex, val_ex, wipeE, restE, Sl.keep, Option.getD_some, get_z, get_s, set_z, set_s, List.length_cons, List.length_nil, atI_0, atI_1, atI_2, atI_3, atI_4, ixN_5_0, ixN_5_1, ixN_5_2, ixN_5_3, ixN_5_4, D.bl.injEq, D.int.injEq, D.lst.injEq, D.tup.injEq, D.str.injEq, Sl.own.injEq, Sl.val.injEq, Option.some.injEq, exists_eq_left', exists_eq_left, exists_eq', exists_eq, or_true, true_or, or_false, false_or, CMul, CPow, natAbs_10, natAbs_2, Int.cast_ofNat_Int, Nat.reducePow, exists_and_left, exists_const, and_assoc, true_and, and_true, and_self, false_and, and_false, if_true, if_false, ite_true, ite_false, reduceCtorEq, decide_true, decide_false, decide_eq_true_eq, decide_eq_false_iff_not, Bool.not_true, Bool.not_false, Bool.false_eq_true, List.replicate_zero, List.replicate_succ, List.map_cons, List.map_nil, List.nil_append, List.cons_append, Nat.reduceSub, Nat.reduceAdd, Nat.reduceLeDiff, Nat.reduceLT, Int.reduceLT, Int.reduceLE, Int.reduceAdd, Int.reduceSub, Int.reduceMul, Int.reduceNeg, Int.reduceMod, Int.reduceDiv, Int.reducePow, Int.reduceToNat, okD_int, okD_bl, okD_lst, okD_tup, okD_non, okL_nil, okL_cons, okD_str, okL_int, eqD_int, eqD_bl, eqD_str, eqD_tup, eqD_lst, eqL_cons, eqL_nil, eqL_cn, eqL_nc, eqL_int, Bool.and_eq_true, Bool.or_eq_true, Bool.not_eq_true', Bool.and_false, Bool.false_and, Bool.or_false, Bool.false_or, Bool.or_true, Bool.true_or, Bool.and_true, Bool.true_and, Bool.and_self, wIsT2, wDct0, wLstOf, wRepF, wAsgH, DV.hN, hIx, hCons, hNil, hTup, wLM, gCnt, gIdx, gList, gSorted, wDctO, wPar3, wAppPop, wRaise0, wRaise1, wTry, wIsE, wAct, wFl, flD, gAnyX, gSumX, wCatF, wSSet, wLstR1, wLstR2, wTupR1, wFld])
      refine ⟨[.int s, .int m, .tup (R.map dTab)], rfl, ?_⟩
      exact hq
    · obtain ⟨ts, s4, e, hts, rfl⟩ := hI
      match ts, e, hts with
      | t :: ts, e, hts =>
        cases e
        obtain ⟨t1, t2⟩ := tab t (hts t List.mem_cons_self)
        unfold B_Scheme_8 dTab
        simp only [wSeq, wAsg, wOwn, wF, wLc, wSkip, wBrk, wCnt, wRet, wRetF, wRetN, wDrop, wIfS, wPar, wFor, wWh, wV, wApp, wExt, wSetIx, wAug, wVal, wLook, wC, wOp, wTst, wChain, wAnd, wOr, wNot, wAndV, wOrV, wNotV, wIf, wNil, wCons, wTup, wLst, wCall, wCB, wIsT, wiR1, wiR2, wiSq, wiEn, wiZip, gN, gT1, gT2, gT3, gT4, gT5, gT6, gT7, wYes, gAdd, DV.gSub, gMul, gMod, gDiv, gPow, gLt, gLe, gGt, gGe, gCmp, gEq, gNe, gIs, gIsN, DV.isNon, gIn, gNotIn, gIx, gSlc, wSlc, wNoP, wPart, gLen, gAbs, gInt, gMin2, gMax2, gAll, gAny, gSum, gTuple, wNeg, wRev, wRevX, itemsOf, D.isTy, D.isHand, Sl.toD, big_0, big_1, big_2, big_3, big_4, big_5, big_6, big_7, big_8, big_9, big_10, big_11, big_12, draw_iff, own_ex, val_ex, wipeE, restE, Sl.keep, Option.getD_some, get_z, get_s, set_z, set_s, List.length_cons, List.length_nil, atI_0, atI_1, atI_2, atI_3, atI_4, ixN_5_0, ixN_5_1, ixN_5_2, ixN_5_3, ixN_5_4, D.bl.injEq, D.int.injEq, D.lst.injEq, D.tup.injEq, D.str.injEq, Sl.own.injEq, Sl.val.injEq, Option.some.injEq, exists_eq_left', exists_eq_left, exists_eq', exists_eq, or_true, true_or, or_false, false_or, CMul, CPow, natAbs_10, natAbs_2, Int.cast_ofNat_Int, Nat.reducePow, exists_and_left, exists_const, and_assoc, true_and, and_true, and_self, false_and, and_false, if_true, if_false, ite_true, ite_false, reduceCtorEq, decide_true, decide_false, decide_eq_true_eq, decide_eq_false_iff_not, Bool.not_true, Bool.not_false, Bool.false_eq_true, List.replicate_zero, List.replicate_succ, List.map_cons, List.map_nil, List.nil_append, List.cons_append, Nat.reduceSub, Nat.reduceAdd, Nat.reduceLeDiff, Nat.reduceLT, Int.reduceLT, Int.reduceLE, Int.reduceAdd, Int.reduceSub, Int.reduceMul, Int.reduceNeg, Int.reduceMod, Int.reduceDiv, Int.reducePow, Int.reduceToNat, okD_int, okD_bl, okD_lst, okD_tup, okD_non, okL_nil, okL_cons, okD_str, okL_int, eqD_int, eqD_bl, eqD_str, eqD_tup, eqD_lst, eqL_cons, eqL_nil, eqL_cn, eqL_nc, eqL_int, Bool.and_eq_true, Bool.or_eq_true, Bool.not_eq_true', Bool.and_false, Bool.false_and, Bool.or_false, Bool.false_or, Bool.or_true, Bool.true_or, Bool.and_true, Bool.true_and, Bool.and_self, wIsT2, wDct0, wLstOf, wRepF, wAsgH, DV.hN, hIx, hCons, hNil, hTup, wLM, gCnt, gIdx, gList, gSorted, wDctO, wPar3, wAppPop, wRaise0, wRaise1, wTry, wIsE, wAct, wFl, flD, gAnyX, gSumX, wCatF, wSSet, wLstR1, wLstR2, wTupR1, wFld, List.length_map]
        refine ⟨by unfold big; omega, ?_⟩
        refine lc_map (fun _ => .bl true) (fun r hr K' hk => ?_) ?_
        · obtain ⟨row, hrow, rfl⟩ := List.mem_map.mp hr
          obtain ⟨w1, w2⟩ := t2 row hrow
          unfold dT
          (try simp only [wSeq, wAsg, wOwn, wF, wLc, wSkip, wBrk, wCnt, wRet, wRetF, wRetN, wDrop, wIfS, wPar, wFor, wWh, wV, wApp, wExt, wSetIx, wAug, wVal, wLook, wC, wOp, wTst, wChain, wAnd, wOr, wNot, wAndV, wOrV, wNotV, wIf, wNil, wCons, wTup, wLst, wCall, wCB, wIsT, wiR1, wiR2, wiSq, wiEn, wiZip, gN, gT1, gT2, gT3, gT4, gT5, gT6, gT7, wYes, gAdd, DV.gSub, gMul, gMod, gDiv, gPow, gLt, gLe, gGt, gGe, gCmp, gEq, gNe, gIs, gIsN, DV.isNon, gIn, gNotIn, gIx, gSlc, wSlc, wNoP, wPart, gLen, gAbs, gInt, gMin2, gMax2, gAll, gAny, gSum, gTuple, wNeg, wRev, wRevX, itemsOf, D.isTy, D.isHand, Sl.toD, big_0, big_1, big_2, big_3, big_4, big_5, big_6, big_7, big_8, big_9, big_10, big_11, big_12, draw_iff, own_ex, val_ex, wipeE, restE, Sl.keep, Option.getD_some, get_z, get_s, set_z, set_s, List.length_cons, List.length_nil, atI_0, atI_1, atI_2, atI_3, atI_4, ixN_5_0, ixN_5_1, ixN_5_2, ixN_5_3, ixN_5_4, D.bl.injEq, D.int.injEq, D.lst.injEq, D.tup.injEq, D.str.injEq, Sl.own.injEq, Sl.val.injEq, Option.some.injEq, exists_eq_left', exists_eq_left, exists_eq', exists_eq, or_true, true_or, or_false, false_or, CMul, CPow, natAbs_10, natAbs_2, Int.cast_ofNat_Int, Nat.reducePow, exists_and_left, exists_const, and_assoc, true_and, and_true, and_self, false_and, and_false, if_true, if_false, ite_true, ite_false, reduceCtorEq, decide_true, decide_false, decide_eq_true_eq, decide_eq_false_iff_not, Bool.not_true, Bool.not_false, Bool.false_eq_true, List.replicate_zero, List.replicate_succ, List.map_cons, List.map_nil, List.nil_append, List.cons_append, Nat.reduceSub, Nat.reduceAdd, Nat.reduceLeDiff, Nat.reduceLT, Int.reduceLT, Int.reduceLE, Int.reduceAdd, Int.reduceSub, Int.reduceMul, Int.reduceNeg, Int.reduceMod, Int.reduceDiv, Int.reducePow, Int.reduceToNat, okD_int, okD_bl, okD_lst, okD_tup, okD_non, okL_nil, okL_cons, okD_str, okL_int, eqD_int, eqD_bl, eqD_str, eqD_tup, eqD_lst, eqL_cons, eqL_nil, eqL_cn, eqL_nc, eqL_int, Bool.and_eq_true, Bool.or_eq_true, Bool.not_eq_true', Bool.and_false, Bool.false_and, Bool.or_false, Bool.false_or, Bool.or_true, Bool.true_or, Bool.and_true, Bool.true_and, Bool.and_self, wIsT2, wDct0, wLstOf, wRepF, wAsgH, DV.hN, hIx, hCons, hNil, hTup, wLM, gCnt, gIdx, gList, gSorted, wDctO, wPar3, wAppPop, wRaise0, wRaise1, wTry, wIsE, wAct, wFl, flD, gAnyX, gSumX, wCatF, wSSet, wLstR1, wLstR2, wTupR1, wFld])
          rw [sp_is_tuple rfl (fun xs e => by cases e; rw [List.length_map]; omega), tp_map w1]
          (try simp only [wSeq, wAsg, wOwn, wF, wLc, wSkip, wBrk, wCnt, wRet, wRetF, wRetN, wDrop, wIfS, wPar, wFor, wWh, wV, wApp, wExt, wSetIx, wAug, wVal, wLook, wC, wOp, wTst, wChain, wAnd, wOr, wNot, wAndV, wOrV, wNotV, wIf, wNil, wCons, wTup, wLst, wCall, wCB, wIsT, wiR1, wiR2, wiSq, wiEn, wiZip, gN, gT1, gT2, gT3, gT4, gT5, gT6, gT7, wYes, gAdd, DV.gSub, gMul, gMod, gDiv, gPow, gLt, gLe, gGt, gGe, gCmp, gEq, gNe, gIs, gIsN, DV.isNon, gIn, gNotIn, gIx, gSlc, wSlc, wNoP, wPart, gLen, gAbs, gInt, gMin2, gMax2, gAll, gAny, gSum, gTuple, wNeg, wRev, wRevX, itemsOf, D.isTy, D.isHand, Sl.toD, big_0, big_1, big_2, big_3, big_4, big_5, big_6, big_7, big_8, big_9, big_10, big_11, big_12, draw_iff, own_ex, val_ex, wipeE, restE, Sl.keep, Option.getD_some, get_z, get_s, set_z, set_s, List.length_cons, List.length_nil, atI_0, atI_1, atI_2, atI_3, atI_4, ixN_5_0, ixN_5_1, ixN_5_2, ixN_5_3, ixN_5_4, D.bl.injEq, D.int.injEq, D.lst.injEq, D.tup.injEq, D.str.injEq, Sl.own.injEq, Sl.val.injEq, Option.some.injEq, exists_eq_left', exists_eq_left, exists_eq', exists_eq, or_true, true_or, or_false, false_or, CMul, CPow, natAbs_10, natAbs_2, Int.cast_ofNat_Int, Nat.reducePow, exists_and_left, exists_const, and_assoc, true_and, and_true, and_self, false_and, and_false, if_true, if_false, ite_true, ite_false, reduceCtorEq, decide_true, decide_false, decide_eq_true_eq, decide_eq_false_iff_not, Bool.not_true, Bool.not_false, Bool.false_eq_true, List.replicate_zero, List.replicate_succ, List.map_cons, List.map_nil, List.nil_append, List.cons_append, Nat.reduceSub, Nat.reduceAdd, Nat.reduceLeDiff, Nat.reduceLT, Int.reduceLT, Int.reduceLE, Int.reduceAdd, Int.reduceSub, Int.reduceMul, Int.reduceNeg, Int.reduceMod, Int.reduceDiv, Int.reducePow, Int.reduceToNat, okD_int, okD_bl, okD_lst, okD_tup, okD_non, okL_nil, okL_cons, okD_str, okL_int, eqD_int, eqD_bl, eqD_str, eqD_tup, eqD_lst, eqL_cons, eqL_nil, eqL_cn, eqL_nc, eqL_int, Bool.and_eq_true, Bool.or_eq_true, Bool.not_eq_true', Bool.and_false, Bool.false_and, Bool.or_false, Bool.false_or, Bool.or_true, Bool.true_or, Bool.and_true, Bool.true_and, Bool.and_self, wIsT2, wDct0, wLstOf, wRepF, wAsgH, DV.hN, hIx, hCons, hNil, hTup, wLM, gCnt, gIdx, gList, gSorted, wDctO, wPar3, wAppPop, wRaise0, wRaise1, wTry, wIsE, wAct, wFl, flD, gAnyX, gSumX, wCatF, wSSet, wLstR1, wLstR2, wTupR1, wFld])
          refine sp_are_below (.ints (by omega)) ?_
          rw [below_ints w2]
          exact hk
        · (try simp only [wSeq, wAsg, wOwn, wF, wLc, wSkip, wBrk, wCnt, wRet, wRetF, wRetN, wDrop, wIfS, wPar, wFor, wWh, wV, wApp, wExt, wSetIx, wAug, wVal, wLook, wC, wOp, wTst, wChain, wAnd, wOr, wNot, wAndV, wOrV, wNotV, wIf, wNil, wCons, wTup, wLst, wCall, wCB, wIsT, wiR1, wiR2, wiSq, wiEn, wiZip, gN, gT1, gT2, gT3, gT4, gT5, gT6, gT7, wYes, gAdd, DV.gSub, gMul, gMod, gDiv, gPow, gLt, gLe, gGt, gGe, gCmp, gEq, gNe, gIs, gIsN, DV.isNon, gIn, gNotIn, gIx, gSlc, wSlc, wNoP, wPart, gLen, gAbs, gInt, gMin2, gMax2, gAll, gAny, gSum, gTuple, wNeg, wRev, wRevX, itemsOf, D.isTy, D.isHand, Sl.toD, big_0, big_1, big_2, big_3, big_4, big_5, big_6, big_7, big_8, big_9, big_10, big_11, big_12, draw_iff, own_ex, val_ex, wipeE, restE, Sl.keep, Option.getD_some, get_z, get_s, set_z, set_s, List.length_cons, List.length_nil, atI_0, atI_1, atI_2, atI_3, atI_4, ixN_5_0, ixN_5_1, ixN_5_2, ixN_5_3, ixN_5_4, D.bl.injEq, D.int.injEq, D.lst.injEq, D.tup.injEq, D.str.injEq, Sl.own.injEq, Sl.val.injEq, Option.some.injEq, exists_eq_left', exists_eq_left, exists_eq', exists_eq, or_true, true_or, or_false, false_or, CMul, CPow, natAbs_10, natAbs_2, Int.cast_ofNat_Int, Nat.reducePow, exists_and_left, exists_const, and_assoc, true_and, and_true, and_self, false_and, and_false, if_true, if_false, ite_true, ite_false, reduceCtorEq, decide_true, decide_false, decide_eq_true_eq, decide_eq_false_iff_not, Bool.not_true, Bool.not_false, Bool.false_eq_true, List.replicate_zero, List.replicate_succ, List.map_cons, List.map_nil, List.nil_append, List.cons_append, Nat.reduceSub, Nat.reduceAdd, Nat.reduceLeDiff, Nat.reduceLT, Int.reduceLT, Int.reduceLE, Int.reduceAdd, Int.reduceSub, Int.reduceMul, Int.reduceNeg, Int.reduceMod, Int.reduceDiv, Int.reducePow, Int.reduceToNat, okD_int, okD_bl, okD_lst, okD_tup, okD_non, okL_nil, okL_cons, okD_str, okL_int, eqD_int, eqD_bl, eqD_str, eqD_tup, eqD_lst, eqL_cons, eqL_nil, eqL_cn, eqL_nc, eqL_int, Bool.and_eq_true, Bool.or_eq_true, Bool.not_eq_true', Bool.and_false, Bool.false_and, Bool.or_false, Bool.false_or, Bool.or_true, Bool.true_or, Bool.and_true, Bool.true_and, Bool.and_self, wIsT2, wDct0, wLstOf, wRepF, wAsgH, DV.hN, hIx, hCons, hNil, hTup, wLM, gCnt, gIdx, gList, gSorted, wDctO, wPar3, wAppPop, wRaise0, wRaise1, wTry, wIsE, wAct, wFl, flD, gAnyX, gSumX, wCatF, wSSet, wLstR1, wLstR2, wTupR1, wFld])
          refine fun _ => ⟨_, toBs_of (fun _ => true) _, ?_⟩
          rw [all_id, all_true fun _ _ => rfl]
          (try simp only [wSeq, wAsg, wOwn, wF, wLc, wSkip, wBrk, wCnt, wRet, wRetF, wRetN, wDrop, wIfS, wPar, wFor, wWh, wV, wApp, wExt, wSetIx, wAug, wVal, wLook, wC, wOp, wTst, wChain, wAnd, wOr, wNot, wAndV, wOrV, wNotV, wIf, wNil, wCons, wTup, wLst, wCall, wCB, wIsT, wiR1, wiR2, wiSq, wiEn, wiZip, gN, gT1, gT2, gT3, gT4, gT5, gT6, gT7, wYes, gAdd, DV.gSub, gMul, gMod, gDiv, gPow, gLt, gLe, gGt, gGe, gCmp, gEq, gNe, gIs, gIsN, DV.isNon, gIn, gNotIn, gIx, gSlc, wSlc, wNoP, wPart, gLen, gAbs, gInt, gMin2, gMax2, gAll, gAny, gSum, gTuple, wNeg, wRev, wRevX, itemsOf, D.isTy, D.isHand, Sl.toD, big_0, big_1, big_2, big_3, big_4, big_5, big_6, big_7, big_8, big_9, big_10, big_11, big_12, draw_iff, own_ex, val_ex, wipeE, restE, Sl.keep, Option.getD_some, get_z, get_s, set_z, set_s, List.length_cons, List.length_nil, atI_0, atI_1, atI_2, atI_3, atI_4, ixN_5_0, ixN_5_1, ixN_5_2, ixN_5_3, ixN_5_4, D.bl.injEq, D.int.injEq, D.lst.injEq, D.tup.injEq, D.str.injEq, Sl.own.injEq, Sl.val.injEq, Option.some.injEq, exists_eq_left', exists_eq_left, exists_eq', exists_eq, or_true, true_or, or_false, false_or, CMul, CPow, natAbs_10, natAbs_2, Int.cast_ofNat_Int, Nat.reducePow, exists_and_left, exists_const, and_assoc, true_and, and_true, and_self, false_and, and_false, if_true, if_false, ite_true, ite_false, reduceCtorEq, decide_true, decide_false, decide_eq_true_eq, decide_eq_false_iff_not, Bool.not_true, Bool.not_false, Bool.false_eq_true, List.replicate_zero, List.replicate_succ, List.map_cons, List.map_nil, List.nil_append, List.cons_append, Nat.reduceSub, Nat.reduceAdd, Nat.reduceLeDiff, Nat.reduceLT, Int.reduceLT, Int.reduceLE, Int.reduceAdd, Int.reduceSub, Int.reduceMul, Int.reduceNeg, Int.reduceMod, Int.reduceDiv, Int.reducePow, Int.reduceToNat, okD_int, okD_bl, okD_lst, okD_tup, okD_non, okL_nil, okL_cons, okD_str, okL_int, eqD_int, eqD_bl, eqD_str, eqD_tup, eqD_lst, eqL_cons, eqL_nil, eqL_cn, eqL_nc, eqL_int, Bool.and_eq_true, Bool.or_eq_true, Bool.not_eq_true', Bool.and_false, Bool.false_and, Bool.or_false, Bool.false_or, Bool.or_true, Bool.true_or, Bool.and_true, Bool.true_and, Bool.and_self, wIsT2, wDct0, wLstOf, wRepF, wAsgH, DV.hN, hIx, hCons, hNil, hTup, wLM, gCnt, gIdx, gList, gSorted, wDctO, wPar3, wAppPop, wRaise0, wRaise1, wTry, wIsE, wAct, wFl, flD, gAnyX, gSumX, wCatF, wSSet, wLstR1, wLstR2, wTupR1, wFld])
          exact hn _ ⟨ts, _, rfl, fun t h => hts t (List.mem_cons_of_mem _ h), rfl⟩
end

end Law

set_option Elab.async false
set_option linter.all false
set_option maxRecDepth 100000
namespace Law
open PySem PySem.Spec PyProof.Rows L2 DV
/-- where a sign leads from a state, at place k -/
def stp (R : List (List (List Int))) (k : Nat) (st x : Int) : Int := ((R.getD (k % R.length) []).getD st.toNat []).getD x.toNat 0
/-- the state behind a word -/
def run (R : List (List (List Int))) : Nat → Int → List Int → Int
  | _, st, [] => st
  | k, st, x :: w => run R (k + 1) (stp R k st x) w
theorem atI_dflt {α : Type} {f : α → D} {l : List α} {i : Int} {k : Nat} {d : α} (h : i = k) (hk : k < l.length) : atI (l.map f) i = some (f (l.getD k d)) := by
  rw [atI_nat h, List.getElem?_map, List.getD_eq_getElem?_getD, List.getElem?_eq_getElem hk]; rfl
theorem getD_mem {α : Type} {l : List α} {k : Nat} {d : α} (hk : k < l.length) : l.getD k d ∈ l := by
  rw [List.getD_eq_getElem?_getD, List.getElem?_eq_getElem hk]; exact List.getElem_mem hk
section
variable {s m : Int} {R : List (List (List Int))}
structure StpOk (R : List (List (List Int))) (k : Nat) (st x : Int) (m : Int) : Prop where
  a1 : atI (R.map dTab) ((k : Int) % (R.length : Int)) = some (dTab (R.getD (k % R.length) []))
  a2 : atI ((R.getD (k % R.length) []).map dT) st = some (dT ((R.getD (k % R.length) []).getD st.toNat []))
  a3 : atI (((R.getD (k % R.length) []).getD st.toNat []).map D.int) x = some (.int (stp R k st x))
  lo : 0 ≤ stp R k st x
  hi : stp R k st x < m
theorem stp_ok (o : SchOk s m R) {k : Nat} {st x : Int} (h1 : 0 ≤ st) (h2 : st < m) (h3 : 0 ≤ x) (h4 : x < s) : StpOk R k st x m := by
  have hk : k % R.length < R.length := Nat.mod_lt _ o.r1
  obtain ⟨t1, t2⟩ := o.tab _ (getD_mem (d := []) hk)
  have hs : st.toNat < (R.getD (k % R.length) []).length := by omega
  obtain ⟨w1, w2⟩ := t2 _ (getD_mem (d := []) hs)
  have hx : x.toNat < ((R.getD (k % R.length) []).getD st.toNat []).length := by omega
  have hm := w2 _ (getD_mem (d := 0) hx)
  exact ⟨atI_dflt (by rw [Int.natCast_emod]) hk, atI_dflt (by omega) hs, atI_dflt (by omega) hx, hm.1, hm.2⟩
theorem run_lt (o : SchOk s m R) : ∀ {w : List Int} {k : Nat} {st : Int}, 0 ≤ st → st < m → (∀ x ∈ w, 0 ≤ x ∧ x < s) → 0 ≤ run R k st w ∧ run R k st w < m
  | [], _, _, h1, h2, _ => ⟨h1, h2⟩
  | x :: w, k, st, h1, h2, hw => by
    have hx := hw x List.mem_cons_self
    have p := stp_ok o (k := k) h1 h2 hx.1 hx.2
    have ih := run_lt o (w := w) (k := k + 1) p.lo p.hi fun y hy => hw y (List.mem_cons_of_mem _ hy)
    exact ih
variable {Q : D → Prop} {E : Er → Prop}
theorem sp_raw_state (o : SchOk s m R) {w : List Int} (hw : ∀ x ∈ w, 0 ≤ x ∧ x < s) (hl : w.length ≤ 1000) (h : Q (.int (run R 0 0 w))) : T_raw_state [dSch s m R, .tup (w.map D.int)] Q E := by
  rw [T_raw_state_eq]; unfold wFn B_raw_state
  (try simp only [wSeq, wAsg, wOwn, wF, wLc, wSkip, wBrk, wCnt, wRet, wRetF, wRetN, wDrop, wIfS, wPar, wFor, wWh, wV, wApp, wExt, wSetIx, wAug, wVal, wLook, wC, wOp, wTst, wChain, wAnd, wOr, wNot, wAndV, wOrV, wNotV, wIf, wNil, wCons, wTup, wLst, wCall, wCB, wIsT, wiR1, wiR2, wiSq, wiEn, wiZip, gN, gT1, gT2, gT3, gT4, gT5, gT6, gT7, wYes, gAdd, DV.gSub, gMul, gMod, gDiv, gPow, gLt, gLe, gGt, gGe, gCmp, gEq, gNe, gIs, gIsN, DV.isNon, gIn, gNotIn, gIx, gSlc, wSlc, wNoP, wPart, gLen, gAbs, gInt, gMin2, gMax2, gAll, gAny, gSum, gTuple, wNeg, wRev, wRevX, itemsOf, D.isTy, D.isHand, Sl.toD, big_0, big_1, big_2, big_3, big_4, big_5, big_6, big_7, big_8, big_9, big_10, big_11, big_12, draw_iff, own_ex, val_ex, wipeE, restE, Sl.keep, Option.getD_some, get_z, get_s, set_z, set_s, List.length_cons, List.length_nil, atI_0, atI_1, atI_2, atI_3, atI_4, ixN_5_0, ixN_5_1, ixN_5_2, ixN_5_3, ixN_5_4, D.bl.injEq, D.int.injEq, D.lst.injEq, D.tup.injEq, D.str.injEq, Sl.own.injEq, Sl.val.injEq, Option.some.injEq, exists_eq_left', exists_eq_left, exists_eq', exists_eq, or_true, true_or, or_false, false_or, CMul, CPow, natAbs_10, natAbs_2, Int.cast_ofNat_Int, Nat.reducePow, exists_and_left, exists_const, and_assoc, true_and, and_true, and_self, false_and, and_false, if_true, if_false, ite_true, ite_false, reduceCtorEq, decide_true, decide_false, decide_eq_true_eq, decide_eq_false_iff_not, Bool.not_true, Bool.not_false, Bool.false_eq_true, List.replicate_zero, List.replicate_succ, List.map_cons, List.map_nil, List.nil_append, List.cons_append, Nat.reduceSub, Nat.reduceAdd, Nat.reduceLeDiff, Nat.reduceLT, Int.reduceLT, Int.reduceLE, Int.reduceAdd, Int.reduceSub, Int.reduceMul, Int.reduceNeg, Int.reduceMod, Int.reduceDiv, Int.reducePow, Int.reduceToNat, okD_int, okD_bl, okD_lst, okD_tup, okD_non, okL_nil, okL_cons, okD_str, okL_int, eqD_int, eqD_bl, eqD_str, eqD_tup, eqD_lst, eqL_cons, eqL_nil, eqL_cn, eqL_nc, eqL_int, Bool.and_eq_true, Bool.or_eq_true, Bool.not_eq_true', Bool.and_false, Bool.false_and, Bool.or_false, Bool.false_or, Bool.or_true, Bool.true_or, Bool.and_true, Bool.true_and, Bool.and_self, wIsT2, wDct0, wLstOf, wRepF, wAsgH, DV.hN, hIx, hCons, hNil, hTup, wLM, gCnt, gIdx, gList, gSorted, wDctO, wPar3, wAppPop, wRaise0, wRaise1, wTry, wIsE, wAct, wFl, flD, gAnyX, gSumX, wCatF, wSSet, wLstR1, wLstR2, wTupR1, wFld])
  unfold B_raw_state_2
  (try simp only [wSeq, wAsg, wOwn, wF, wLc, wSkip, wBrk, wCnt, wRet, wRetF, wRetN, wDrop, wIfS, wPar, wFor, wWh, wV, wApp, wExt, wSetIx, wAug, wVal, wLook, wC, wOp, wTst, wChain, wAnd, wOr, wNot, wAndV, wOrV, wNotV, wIf, wNil, wCons, wTup, wLst, wCall, wCB, wIsT, wiR1, wiR2, wiSq, wiEn, wiZip, gN, gT1, gT2, gT3, gT4, gT5, gT6, gT7, wYes, gAdd, DV.gSub, gMul, gMod, gDiv, gPow, gLt, gLe, gGt, gGe, gCmp, gEq, gNe, gIs, gIsN, DV.isNon, gIn, gNotIn, gIx, gSlc, wSlc, wNoP, wPart, gLen, gAbs, gInt, gMin2, gMax2, gAll, gAny, gSum, gTuple, wNeg, wRev, wRevX, itemsOf, D.isTy, D.isHand, Sl.toD, big_0, big_1, big_2, big_3, big_4, big_5, big_6, big_7, big_8, big_9, big_10, big_11, big_12, draw_iff, own_ex, val_ex, wipeE, restE, Sl.keep, Option.getD_some, get_z, get_s, set_z, set_s, List.length_cons, List.length_nil, atI_0, atI_1, atI_2, atI_3, atI_4, ixN_5_0, ixN_5_1, ixN_5_2, ixN_5_3, ixN_5_4, D.bl.injEq, D.int.injEq, D.lst.injEq, D.tup.injEq, D.str.injEq, Sl.own.injEq, Sl.val.injEq, Option.some.injEq, exists_eq_left', exists_eq_left, exists_eq', exists_eq, or_true, true_or, or_false, false_or, CMul, CPow, natAbs_10, natAbs_2, Int.cast_ofNat_Int, Nat.reducePow, exists_and_left, exists_const, and_assoc, true_and, and_true, and_self, false_and, and_false, if_true, if_false, ite_true, ite_false, reduceCtorEq, decide_true, decide_false, decide_eq_true_eq, decide_eq_false_iff_not, Bool.not_true, Bool.not_false, Bool.false_eq_true, List.replicate_zero, List.replicate_succ, List.map_cons, List.map_nil, List.nil_append, List.cons_append, Nat.reduceSub, Nat.reduceAdd, Nat.reduceLeDiff, Nat.reduceLT, Int.reduceLT, Int.reduceLE, Int.reduceAdd, Int.reduceSub, Int.reduceMul, Int.reduceNeg, Int.reduceMod, Int.reduceDiv, Int.reducePow, Int.reduceToNat, okD_int, okD_bl, okD_lst, okD_tup, okD_non, okL_nil, okL_cons, okD_str, okL_int, eqD_int, eqD_bl, eqD_str, eqD_tup, eqD_lst, eqL_cons, eqL_nil, eqL_cn, eqL_nc, eqL_int, Bool.and_eq_true, Bool.or_eq_true, Bool.not_eq_true', Bool.and_false, Bool.false_and, Bool.or_false, Bool.false_or, Bool.or_true, Bool.true_or, Bool.and_true, Bool.true_and, Bool.and_self, wIsT2, wDct0, wLstOf, wRepF, wAsgH, DV.hN, hIx, hCons, hNil, hTup, wLM, gCnt, gIdx, gList, gSorted, wDctO, wPar3, wAppPop, wRaise0, wRaise1, wTry, wIsE, wAct, wFl, flD, gAnyX, gSumX, wCatF, wSSet, wLstR1, wLstR2, wTupR1, wFld])
  have hm := o.m1
  refine for_ind (fun rest env => ∃ (k : Nat) (ys : List Int) (a : Int) (s3 s4 : Sl), rest = enumD k (ys.map D.int) ∧ (∀ x ∈ ys, 0 ≤ x ∧ x < s) ∧ 0 ≤ a ∧ a < m ∧ k + ys.length ≤ 1000 ∧ run R k a ys = run R 0 0 w ∧ env = [.val (dSch s m R), .val (.tup (w.map D.int)), .val (.int a), s3, s4]) (fun env hI => ?_) (fun d rest env hI nx hn => ?_) ⟨0, w, 0, _, _, rfl, hw, by omega, by omega, by omega, rfl, rfl⟩
  · obtain ⟨k, ys, a, s3, s4, e, _, _, _, _, h2, rfl⟩ := hI
    have : ys = [] := by cases ys with | nil => rfl | cons _ _ => cases e
    subst this
    unfold B_raw_state_4
    (try simp only [wSeq, wAsg, wOwn, wF, wLc, wSkip, wBrk, wCnt, wRet, wRetF, wRetN, wDrop, wIfS, wPar, wFor, wWh, wV, wApp, wExt, wSetIx, wAug, wVal, wLook, wC, wOp, wTst, wChain, wAnd, wOr, wNot, wAndV, wOrV, wNotV, wIf, wNil, wCons, wTup, wLst, wCall, wCB, wIsT, wiR1, wiR2, wiSq, wiEn, wiZip, gN, gT1, gT2, gT3, gT4, gT5, gT6, gT7, wYes, gAdd, DV.gSub, gMul, gMod, gDiv, gPow, gLt, gLe, gGt, gGe, gCmp, gEq, gNe, gIs, gIsN, DV.isNon, gIn, gNotIn, gIx, gSlc, wSlc, wNoP, wPart, gLen, gAbs, gInt, gMin2, gMax2, gAll, gAny, gSum, gTuple, wNeg, wRev, wRevX, itemsOf, D.isTy, D.isHand, Sl.toD, big_0, big_1, big_2, big_3, big_4, big_5, big_6, big_7, big_8, big_9, big_10, big_11, big_12, draw_iff, own_ex, val_ex, wipeE, restE, Sl.keep, Option.getD_some, get_z, get_s, set_z, set_s, List.length_cons, List.length_nil, atI_0, atI_1, atI_2, atI_3, atI_4, ixN_5_0, ixN_5_1, ixN_5_2, ixN_5_3, ixN_5_4, D.bl.injEq, D.int.injEq, D.lst.injEq, D.tup.injEq, D.str.injEq, Sl.own.injEq, Sl.val.injEq, Option.some.injEq, exists_eq_left', exists_eq_left, exists_eq', exists_eq, or_true, true_or, or_false, false_or, CMul, CPow, natAbs_10, natAbs_2, Int.cast_ofNat_Int, Nat.reducePow, exists_and_left, exists_const, and_assoc, true_and, and_true, and_self, false_and, and_false, if_true, if_false, ite_true, ite_false, reduceCtorEq, decide_true, decide_false, decide_eq_true_eq, decide_eq_false_iff_not, Bool.not_true, Bool.not_false, Bool.false_eq_true, List.replicate_zero, List.replicate_succ, List.map_cons, List.map_nil, List.nil_append, List.cons_append, Nat.reduceSub, Nat.reduceAdd, Nat.reduceLeDiff, Nat.reduceLT, Int.reduceLT, Int.reduceLE, Int.reduceAdd, Int.reduceSub, Int.reduceMul, Int.reduceNeg, Int.reduceMod, Int.reduceDiv, Int.reducePow, Int.reduceToNat, okD_int, okD_bl, okD_lst, okD_tup, okD_non, okL_nil, okL_cons, okD_str, okL_int, eqD_int, eqD_bl, eqD_str, eqD_tup, eqD_lst, eqL_cons, eqL_nil, eqL_cn, eqL_nc, eqL_int, Bool.and_eq_true, Bool.or_eq_true, Bool.not_eq_true', Bool.and_false, Bool.false_and, Bool.or_false, Bool.false_or, Bool.or_true, Bool.true_or, Bool.and_true, Bool.true_and, Bool.and_self, wIsT2, wDct0, wLstOf, wRepF, wAsgH, DV.hN, hIx, hCons, hNil, hTup, wLM, gCnt, gIdx, gList, gSorted, wDctO, wPar3, wAppPop, wRaise0, wRaise1, wTry, wIsE, wAct, wFl, flD, gAnyX, gSumX, wCatF, wSSet, wLstR1, wLstR2, wTupR1, wFld])
    have h2 : a = _ := h2
    rw [h2]
    exact h
  · obtain ⟨k, ys, a, s3, s4, e, hy, a0, a1, hk, h2, rfl⟩ := hI
    match ys, e, hy, hk, h2 with
    | y :: ys, e, hy, hk, h2 =>
      cases e
      have hy0 := hy y List.mem_cons_self
      have p := stp_ok o (k := k) a0 a1 hy0.1 hy0.2
      have r1 := o.r1
      have r2 := o.r2
      simp only [wSeq, wAsg, wOwn, wF, wLc, wSkip, wBrk, wCnt, wRet, wRetF, wRetN, wDrop, wIfS, wPar, wFor, wWh, wV, wApp, wExt, wSetIx, wAug, wVal, wLook, wC, wOp, wTst, wChain, wAnd, wOr, wNot, wAndV, wOrV, wNotV, wIf, wNil, wCons, wTup, wLst, wCall, wCB, wIsT, wiR1, wiR2, wiSq, wiEn, wiZip, gN, gT1, gT2, gT3, gT4, gT5, gT6, gT7, wYes, gAdd, DV.gSub, gMul, gMod, gDiv, gPow, gLt, gLe, gGt, gGe, gCmp, gEq, gNe, gIs, gIsN, DV.isNon, gIn, gNotIn, gIx, gSlc, wSlc, wNoP, wPart, gLen, gAbs, gInt, gMin2, gMax2, gAll, gAny, gSum, gTuple, wNeg, wRev, wRevX, itemsOf, D.isTy, D.isHand, Sl.toD, big_0, big_1, big_2, big_3, big_4, big_5, big_6, big_7, big_8, big_9, big_10, big_11, big_12, draw_iff, own_ex, val_ex, wipeE, restE, Sl.keep, Option.getD_some, get_z, get_s, set_z, set_s, List.length_cons, List.length_nil, atI_0, atI_1, atI_2, atI_3, atI_4, ixN_5_0, ixN_5_1, ixN_5_2, ixN_5_3, ixN_5_4, D.bl.injEq, D.int.injEq, D.lst.injEq, D.tup.injEq, D.str.injEq, Sl.own.injEq, Sl.val.injEq, Option.some.injEq, exists_eq_left', exists_eq_left, exists_eq', exists_eq, or_true, true_or, or_false, false_or, CMul, CPow, natAbs_10, natAbs_2, Int.cast_ofNat_Int, Nat.reducePow, exists_and_left, exists_const, and_assoc, true_and, and_true, and_self, false_and, and_false, if_true, if_false, ite_true, ite_false, reduceCtorEq, decide_true, decide_false, decide_eq_true_eq, decide_eq_false_iff_not, Bool.not_true, Bool.not_false, Bool.false_eq_true, List.replicate_zero, List.replicate_succ, List.map_cons, List.map_nil, List.nil_append, List.cons_append, Nat.reduceSub, Nat.reduceAdd, Nat.reduceLeDiff, Nat.reduceLT, Int.reduceLT, Int.reduceLE, Int.reduceAdd, Int.reduceSub, Int.reduceMul, Int.reduceNeg, Int.reduceMod, Int.reduceDiv, Int.reducePow, Int.reduceToNat, okD_int, okD_bl, okD_lst, okD_tup, okD_non, okL_nil, okL_cons, okD_str, okL_int, eqD_int, eqD_bl, eqD_str, eqD_tup, eqD_lst, eqL_cons, eqL_nil, eqL_cn, eqL_nc, eqL_int, Bool.and_eq_true, Bool.or_eq_true, Bool.not_eq_true', Bool.and_false, Bool.false_and, Bool.or_false, Bool.false_or, Bool.or_true, Bool.true_or, Bool.and_true, Bool.true_and, Bool.and_self, wIsT2, wDct0, wLstOf, wRepF, wAsgH, DV.hN, hIx, hCons, hNil, hTup, wLM, gCnt, gIdx, gList, gSorted, wDctO, wPar3, wAppPop, wRaise0, wRaise1, wTry, wIsE, wAct, wFl, flD, gAnyX, gSumX, wCatF, wSSet, wLstR1, wLstR2, wTupR1, wFld, fld_rounds, dR, List.length_map]
      refine ⟨by omega, _, p.a1, ?_⟩
      unfold dTab
      (try simp only [wSeq, wAsg, wOwn, wF, wLc, wSkip, wBrk, wCnt, wRet, wRetF, wRetN, wDrop, wIfS, wPar, wFor, wWh, wV, wApp, wExt, wSetIx, wAug, wVal, wLook, wC, wOp, wTst, wChain, wAnd, wOr, wNot, wAndV, wOrV, wNotV, wIf, wNil, wCons, wTup, wLst, wCall, wCB, wIsT, wiR1, wiR2, wiSq, wiEn, wiZip, gN, gT1, gT2, gT3, gT4, gT5, gT6, gT7, wYes, gAdd, DV.gSub, gMul, gMod, gDiv, gPow, gLt, gLe, gGt, gGe, gCmp, gEq, gNe, gIs, gIsN, DV.isNon, gIn, gNotIn, gIx, gSlc, wSlc, wNoP, wPart, gLen, gAbs, gInt, gMin2, gMax2, gAll, gAny, gSum, gTuple, wNeg, wRev, wRevX, itemsOf, D.isTy, D.isHand, Sl.toD, big_0, big_1, big_2, big_3, big_4, big_5, big_6, big_7, big_8, big_9, big_10, big_11, big_12, draw_iff, own_ex, val_ex, wipeE, restE, Sl.keep, Option.getD_some, get_z, get_s, set_z, set_s, List.length_cons, List.length_nil, atI_0, atI_1, atI_2, atI_3, atI_4, ixN_5_0, ixN_5_1, ixN_5_2, ixN_5_3, ixN_5_4, D.bl.injEq, D.int.injEq, D.lst.injEq, D.tup.injEq, D.str.injEq, Sl.own.injEq, Sl.val.injEq, Option.some.injEq, exists_eq_left', exists_eq_left, exists_eq', exists_eq, or_true, true_or, or_false, false_or, CMul, CPow, natAbs_10, natAbs_2, Int.cast_ofNat_Int, Nat.reducePow, exists_and_left, exists_const, and_assoc, true_and, and_true, and_self, false_and, and_false, if_true, if_false, ite_true, ite_false, reduceCtorEq, decide_true, decide_false, decide_eq_true_eq, decide_eq_false_iff_not, Bool.not_true, Bool.not_false, Bool.false_eq_true, List.replicate_zero, List.replicate_succ, List.map_cons, List.map_nil, List.nil_append, List.cons_append, Nat.reduceSub, Nat.reduceAdd, Nat.reduceLeDiff, Nat.reduceLT, Int.reduceLT, Int.reduceLE, Int.reduceAdd, Int.reduceSub, Int.reduceMul, Int.reduceNeg, Int.reduceMod, Int.reduceDiv, Int.reducePow, Int.reduceToNat, okD_int, okD_bl, okD_lst, okD_tup, okD_non, okL_nil, okL_cons, okD_str, okL_int, eqD_int, eqD_bl, eqD_str, eqD_tup, eqD_lst, eqL_cons, eqL_nil, eqL_cn, eqL_nc, eqL_int, Bool.and_eq_true, Bool.or_eq_true, Bool.not_eq_true', Bool.and_false, Bool.false_and, Bool.or_false, Bool.false_or, Bool.or_true, Bool.true_or, Bool.and_true, Bool.true_and, Bool.and_self, wIsT2, wDct0, wLstOf, wRepF, wAsgH, DV.hN, hIx, hCons, hNil, hTup, wLM, gCnt, gIdx, gList, gSorted, wDctO, wPar3, wAppPop, wRaise0, wRaise1, wTry, wIsE, wAct, wFl, flD, gAnyX, gSumX, wCatF, wSSet, wLstR1, wLstR2, wTupR1, wFld])
      refine ⟨_, p.a2, ?_⟩
      unfold dT
      (try simp only [wSeq, wAsg, wOwn, wF, wLc, wSkip, wBrk, wCnt, wRet, wRetF, wRetN, wDrop, wIfS, wPar, wFor, wWh, wV, wApp, wExt, wSetIx, wAug, wVal, wLook, wC, wOp, wTst, wChain, wAnd, wOr, wNot, wAndV, wOrV, wNotV, wIf, wNil, wCons, wTup, wLst, wCall, wCB, wIsT, wiR1, wiR2, wiSq, wiEn, wiZip, gN, gT1, gT2, gT3, gT4, gT5, gT6, gT7, wYes, gAdd, DV.gSub, gMul, gMod, gDiv, gPow, gLt, gLe, gGt, gGe, gCmp, gEq, gNe, gIs, gIsN, DV.isNon, gIn, gNotIn, gIx, gSlc, wSlc, wNoP, wPart, gLen, gAbs, gInt, gMin2, gMax2, gAll, gAny, gSum, gTuple, wNeg, wRev, wRevX, itemsOf, D.isTy, D.isHand, Sl.toD, big_0, big_1, big_2, big_3, big_4, big_5, big_6, big_7, big_8, big_9, big_10, big_11, big_12, draw_iff, own_ex, val_ex, wipeE, restE, Sl.keep, Option.getD_some, get_z, get_s, set_z, set_s, List.length_cons, List.length_nil, atI_0, atI_1, atI_2, atI_3, atI_4, ixN_5_0, ixN_5_1, ixN_5_2, ixN_5_3, ixN_5_4, D.bl.injEq, D.int.injEq, D.lst.injEq, D.tup.injEq, D.str.injEq, Sl.own.injEq, Sl.val.injEq, Option.some.injEq, exists_eq_left', exists_eq_left, exists_eq', exists_eq, or_true, true_or, or_false, false_or, CMul, CPow, natAbs_10, natAbs_2, Int.cast_ofNat_Int, Nat.reducePow, exists_and_left, exists_const, and_assoc, true_and, and_true, and_self, false_and, and_false, if_true, if_false, ite_true, ite_false, reduceCtorEq, decide_true, decide_false, decide_eq_true_eq, decide_eq_false_iff_not, Bool.not_true, Bool.not_false, Bool.false_eq_true, List.replicate_zero, List.replicate_succ, List.map_cons, List.map_nil, List.nil_append, List.cons_append, Nat.reduceSub, Nat.reduceAdd, Nat.reduceLeDiff, Nat.reduceLT, Int.reduceLT, Int.reduceLE, Int.reduceAdd, Int.reduceSub, Int.reduceMul, Int.reduceNeg, Int.reduceMod, Int.reduceDiv, Int.reducePow, Int.reduceToNat, okD_int, okD_bl, okD_lst, okD_tup, okD_non, okL_nil, okL_cons, okD_str, okL_int, eqD_int, eqD_bl, eqD_str, eqD_tup, eqD_lst, eqL_cons, eqL_nil, eqL_cn, eqL_nc, eqL_int, Bool.and_eq_true, Bool.or_eq_true, Bool.not_eq_true', Bool.and_false, Bool.false_and, Bool.or_false, Bool.false_or, Bool.or_true, Bool.true_or, Bool.and_true, Bool.true_and, Bool.and_self, wIsT2, wDct0, wLstOf, wRepF, wAsgH, DV.hN, hIx, hCons, hNil, hTup, wLM, gCnt, gIdx, gList, gSorted, wDctO, wPar3, wAppPop, wRaise0, wRaise1, wTry, wIsE, wAct, wFl, flD, gAnyX, gSumX, wCatF, wSSet, wLstR1, wLstR2, wTupR1, wFld])
      refine ⟨_, p.a3, ?_⟩
      exact hn _ ⟨k + 1, ys, _, _, _, rfl, fun x hx => hy x (List.mem_cons_of_mem _ hx), p.lo, p.hi, by simp only [List.length_cons] at hk; omega, h2, rfl⟩
end

section
variable {s m : Int} {R : List (List (List Int))} {Q : D → Prop} {E : Er → Prop}
theorem sp_law_state (o : SchOk s m R) {w : List Int} (hw : ∀ x ∈ w, 0 ≤ x ∧ x < s) (hl : w.length ≤ 1000) (h : Q (.int (run R 0 0 w))) : T__law_state [dSch s m R, .tup (w.map D.int)] Q E := by
  rw [T__law_state_eq]; unfold wFn B__law_state
  (try simp only [wSeq, wAsg, wOwn, wF, wLc, wSkip, wBrk, wCnt, wRet, wRetF, wRetN, wDrop, wIfS, wPar, wFor, wWh, wV, wApp, wExt, wSetIx, wAug, wVal, wLook, wC, wOp, wTst, wChain, wAnd, wOr, wNot, wAndV, wOrV, wNotV, wIf, wNil, wCons, wTup, wLst, wCall, wCB, wIsT, wiR1, wiR2, wiSq, wiEn, wiZip, gN, gT1, gT2, gT3, gT4, gT5, gT6, gT7, wYes, gAdd, DV.gSub, gMul, gMod, gDiv, gPow, gLt, gLe, gGt, gGe, gCmp, gEq, gNe, gIs, gIsN, DV.isNon, gIn, gNotIn, gIx, gSlc, wSlc, wNoP, wPart, gLen, gAbs, gInt, gMin2, gMax2, gAll, gAny, gSum, gTuple, wNeg, wRev, wRevX, itemsOf, D.isTy, D.isHand, Sl.toD, big_0, big_1, big_2, big_3, big_4, big_5, big_6, big_7, big_8, big_9, big_10, big_11, big_12, draw_iff, own_ex, val_ex, wipeE, restE, Sl.keep, Option.getD_some, get_z, get_s, set_z, set_s, List.length_cons, List.length_nil, atI_0, atI_1, atI_2, atI_3, atI_4, ixN_5_0, ixN_5_1, ixN_5_2, ixN_5_3, ixN_5_4, D.bl.injEq, D.int.injEq, D.lst.injEq, D.tup.injEq, D.str.injEq, Sl.own.injEq, Sl.val.injEq, Option.some.injEq, exists_eq_left', exists_eq_left, exists_eq', exists_eq, or_true, true_or, or_false, false_or, CMul, CPow, natAbs_10, natAbs_2, Int.cast_ofNat_Int, Nat.reducePow, exists_and_left, exists_const, and_assoc, true_and, and_true, and_self, false_and, and_false, if_true, if_false, ite_true, ite_false, reduceCtorEq, decide_true, decide_false, decide_eq_true_eq, decide_eq_false_iff_not, Bool.not_true, Bool.not_false, Bool.false_eq_true, List.replicate_zero, List.replicate_succ, List.map_cons, List.map_nil, List.nil_append, List.cons_append, Nat.reduceSub, Nat.reduceAdd, Nat.reduceLeDiff, Nat.reduceLT, Int.reduceLT, Int.reduceLE, Int.reduceAdd, Int.reduceSub, Int.reduceMul, Int.reduceNeg, Int.reduceMod, Int.reduceDiv, Int.reducePow, Int.reduceToNat, okD_int, okD_bl, okD_lst, okD_tup, okD_non, okL_nil, okL_cons, okD_str, okL_int, eqD_int, eqD_bl, eqD_str, eqD_tup, eqD_lst, eqL_cons, eqL_nil, eqL_cn, eqL_nc, eqL_int, Bool.and_eq_true, Bool.or_eq_true, Bool.not_eq_true', Bool.and_false, Bool.false_and, Bool.or_false, Bool.false_or, Bool.or_true, Bool.true_or, Bool.and_true, Bool.true_and, Bool.and_self, wIsT2, wDct0, wLstOf, wRepF, wAsgH, DV.hN, hIx, hCons, hNil, hTup, wLM, gCnt, gIdx, gList, gSorted, wDctO, wPar3, wAppPop, wRaise0, wRaise1, wTry, wIsE, wAct, wFl, flD, gAnyX, gSumX, wCatF, wSSet, wLstR1, wLstR2, wTupR1, wFld])
  unfold B__law_state_2
  (try simp only [wSeq, wAsg, wOwn, wF, wLc, wSkip, wBrk, wCnt, wRet, wRetF, wRetN, wDrop, wIfS, wPar, wFor, wWh, wV, wApp, wExt, wSetIx, wAug, wVal, wLook, wC, wOp, wTst, wChain, wAnd, wOr, wNot, wAndV, wOrV, wNotV, wIf, wNil, wCons, wTup, wLst, wCall, wCB, wIsT, wiR1, wiR2, wiSq, wiEn, wiZip, gN, gT1, gT2, gT3, gT4, gT5, gT6, gT7, wYes, gAdd, DV.gSub, gMul, gMod, gDiv, gPow, gLt, gLe, gGt, gGe, gCmp, gEq, gNe, gIs, gIsN, DV.isNon, gIn, gNotIn, gIx, gSlc, wSlc, wNoP, wPart, gLen, gAbs, gInt, gMin2, gMax2, gAll, gAny, gSum, gTuple, wNeg, wRev, wRevX, itemsOf, D.isTy, D.isHand, Sl.toD, big_0, big_1, big_2, big_3, big_4, big_5, big_6, big_7, big_8, big_9, big_10, big_11, big_12, draw_iff, own_ex, val_ex, wipeE, restE, Sl.keep, Option.getD_some, get_z, get_s, set_z, set_s, List.length_cons, List.length_nil, atI_0, atI_1, atI_2, atI_3, atI_4, ixN_5_0, ixN_5_1, ixN_5_2, ixN_5_3, ixN_5_4, D.bl.injEq, D.int.injEq, D.lst.injEq, D.tup.injEq, D.str.injEq, Sl.own.injEq, Sl.val.injEq, Option.some.injEq, exists_eq_left', exists_eq_left, exists_eq', exists_eq, or_true, true_or, or_false, false_or, CMul, CPow, natAbs_10, natAbs_2, Int.cast_ofNat_Int, Nat.reducePow, exists_and_left, exists_const, and_assoc, true_and, and_true, and_self, false_and, and_false, if_true, if_false, ite_true, ite_false, reduceCtorEq, decide_true, decide_false, decide_eq_true_eq, decide_eq_false_iff_not, Bool.not_true, Bool.not_false, Bool.false_eq_true, List.replicate_zero, List.replicate_succ, List.map_cons, List.map_nil, List.nil_append, List.cons_append, Nat.reduceSub, Nat.reduceAdd, Nat.reduceLeDiff, Nat.reduceLT, Int.reduceLT, Int.reduceLE, Int.reduceAdd, Int.reduceSub, Int.reduceMul, Int.reduceNeg, Int.reduceMod, Int.reduceDiv, Int.reducePow, Int.reduceToNat, okD_int, okD_bl, okD_lst, okD_tup, okD_non, okL_nil, okL_cons, okD_str, okL_int, eqD_int, eqD_bl, eqD_str, eqD_tup, eqD_lst, eqL_cons, eqL_nil, eqL_cn, eqL_nc, eqL_int, Bool.and_eq_true, Bool.or_eq_true, Bool.not_eq_true', Bool.and_false, Bool.false_and, Bool.or_false, Bool.false_or, Bool.or_true, Bool.true_or, Bool.and_true, Bool.true_and, Bool.and_self, wIsT2, wDct0, wLstOf, wRepF, wAsgH, DV.hN, hIx, hCons, hNil, hTup, wLM, gCnt, gIdx, gList, gSorted, wDctO, wPar3, wAppPop, wRaise0, wRaise1, wTry, wIsE, wAct, wFl, flD, gAnyX, gSumX, wCatF, wSSet, wLstR1, wLstR2, wTupR1, wFld])
  have hm := o.m1
  refine for_ind (fun rest env => ∃ (k : Nat) (ys : List Int) (a : Int) (s3 s4 : Sl), rest = enumD k (ys.map D.int) ∧ (∀ x ∈ ys, 0 ≤ x ∧ x < s) ∧ 0 ≤ a ∧ a < m ∧ k + ys.length ≤ 1000 ∧ run R k a ys = run R 0 0 w ∧ env = [.val (dSch s m R), .val (.tup (w.map D.int)), .val (.int a), s3, s4]) (fun env hI => ?_) (fun d rest env hI nx hn => ?_) ⟨0, w, 0, _, _, rfl, hw, by omega, by omega, by omega, rfl, rfl⟩
  · obtain ⟨k, ys, a, s3, s4, e, _, _, _, _, h2, rfl⟩ := hI
    have : ys = [] := by cases ys with | nil => rfl | cons _ _ => cases e
    subst this
    unfold B__law_state_4
    (try simp only [wSeq, wAsg, wOwn, wF, wLc, wSkip, wBrk, wCnt, wRet, wRetF, wRetN, wDrop, wIfS, wPar, wFor, wWh, wV, wApp, wExt, wSetIx, wAug, wVal, wLook, wC, wOp, wTst, wChain, wAnd, wOr, wNot, wAndV, wOrV, wNotV, wIf, wNil, wCons, wTup, wLst, wCall, wCB, wIsT, wiR1, wiR2, wiSq, wiEn, wiZip, gN, gT1, gT2, gT3, gT4, gT5, gT6, gT7, wYes, gAdd, DV.gSub, gMul, gMod, gDiv, gPow, gLt, gLe, gGt, gGe, gCmp, gEq, gNe, gIs, gIsN, DV.isNon, gIn, gNotIn, gIx, gSlc, wSlc, wNoP, wPart, gLen, gAbs, gInt, gMin2, gMax2, gAll, gAny, gSum, gTuple, wNeg, wRev, wRevX, itemsOf, D.isTy, D.isHand, Sl.toD, big_0, big_1, big_2, big_3, big_4, big_5, big_6, big_7, big_8, big_9, big_10, big_11, big_12, draw_iff, own_ex, val_ex, wipeE, restE, Sl.keep, Option.getD_some, get_z, get_s, set_z, set_s, List.length_cons, List.length_nil, atI_0, atI_1, atI_2, atI_3, atI_4, ixN_5_0, ixN_5_1, ixN_5_2, ixN_5_3, ixN_5_4, D.bl.injEq, D.int.injEq, D.lst.injEq, D.tup.injEq, D.str.injEq, Sl.own.injEq, Sl.val.injEq, Option.some.injEq, exists_eq_left', exists_eq_left, exists_eq', exists_eq, or_true, true_or, or_false, false_or, CMul, CPow, natAbs_10, natAbs_2, Int.cast_ofNat_Int, Nat.reducePow, exists_and_left, exists_const, and_assoc, true_and, and_true, and_self, false_and, and_false, if_true, if_false, ite_true, ite_false, reduceCtorEq, decide_true, decide_false, decide_eq_true_eq, decide_eq_false_iff_not, Bool.not_true, Bool.not_false, Bool.false_eq_true, List.replicate_zero, List.replicate_succ, List.map_cons, List.map_nil, List.nil_append, List.cons_append, Nat.reduceSub, Nat.reduceAdd, Nat.reduceLeDiff, Nat.reduceLT, Int.reduceLT, Int.reduceLE, Int.reduceAdd, Int.reduceSub, Int.reduceMul, Int.reduceNeg, Int.reduceMod, Int.reduceDiv, Int.reducePow, Int.reduceToNat, okD_int, okD_bl, okD_lst, okD_tup, okD_non, okL_nil, okL_cons, okD_str, okL_int, eqD_int, eqD_bl, eqD_str, eqD_tup, eqD_lst, eqL_cons, eqL_nil, eqL_cn, eqL_nc, eqL_int, Bool.and_eq_true, Bool.or_eq_true, Bool.not_eq_true', Bool.and_false, Bool.false_and, Bool.or_false, Bool.false_or, Bool.or_true, Bool.true_or, Bool.and_true, Bool.true_and, Bool.and_self, wIsT2, wDct0, wLstOf, wRepF, wAsgH, DV.hN, hIx, hCons, hNil, hTup, wLM, gCnt, gIdx, gList, gSorted, wDctO, wPar3, wAppPop, wRaise0, wRaise1, wTry, wIsE, wAct, wFl, flD, gAnyX, gSumX, wCatF, wSSet, wLstR1, wLstR2, wTupR1, wFld])
    have h2 : a = _ := h2
    rw [h2]
    exact h
  · obtain ⟨k, ys, a, s3, s4, e, hy, a0, a1, hk, h2, rfl⟩ := hI
    match ys, e, hy, hk, h2 with
    | y :: ys, e, hy, hk, h2 =>
      cases e
      have hy0 := hy y List.mem_cons_self
      have p := stp_ok o (k := k) a0 a1 hy0.1 hy0.2
      have r1 := o.r1
      have r2 := o.r2
      simp only [wSeq, wAsg, wOwn, wF, wLc, wSkip, wBrk, wCnt, wRet, wRetF, wRetN, wDrop, wIfS, wPar, wFor, wWh, wV, wApp, wExt, wSetIx, wAug, wVal, wLook, wC, wOp, wTst, wChain, wAnd, wOr, wNot, wAndV, wOrV, wNotV, wIf, wNil, wCons, wTup, wLst, wCall, wCB, wIsT, wiR1, wiR2, wiSq, wiEn, wiZip, gN, gT1, gT2, gT3, gT4, gT5, gT6, gT7, wYes, gAdd, DV.gSub, gMul, gMod, gDiv, gPow, gLt, gLe, gGt, gGe, gCmp, gEq, gNe, gIs, gIsN, DV.isNon, gIn, gNotIn, gIx, gSlc, wSlc, wNoP, wPart, gLen, gAbs, gInt, gMin2, gMax2, gAll, gAny, gSum, gTuple, wNeg, wRev, wRevX, itemsOf, D.isTy, D.isHand, Sl.toD, big_0, big_1, big_2, big_3, big_4, big_5, big_6, big_7, big_8, big_9, big_10, big_11, big_12, draw_iff, own_ex, val_ex, wipeE, restE, Sl.keep, Option.getD_some, get_z, get_s, set_z, set_s, List.length_cons, List.length_nil, atI_0, atI_1, atI_2, atI_3, atI_4, ixN_5_0, ixN_5_1, ixN_5_2, ixN_5_3, ixN_5_4, D.bl.injEq, D.int.injEq, D.lst.injEq, D.tup.injEq, D.str.injEq, Sl.own.injEq, Sl.val.injEq, Option.some.injEq, exists_eq_left', exists_eq_left, exists_eq', exists_eq, or_true, true_or, or_false, false_or, CMul, CPow, natAbs_10, natAbs_2, Int.cast_ofNat_Int, Nat.reducePow, exists_and_left, exists_const, and_assoc, true_and, and_true, and_self, false_and, and_false, if_true, if_false, ite_true, ite_false, reduceCtorEq, decide_true, decide_false, decide_eq_true_eq, decide_eq_false_iff_not, Bool.not_true, Bool.not_false, Bool.false_eq_true, List.replicate_zero, List.replicate_succ, List.map_cons, List.map_nil, List.nil_append, List.cons_append, Nat.reduceSub, Nat.reduceAdd, Nat.reduceLeDiff, Nat.reduceLT, Int.reduceLT, Int.reduceLE, Int.reduceAdd, Int.reduceSub, Int.reduceMul, Int.reduceNeg, Int.reduceMod, Int.reduceDiv, Int.reducePow, Int.reduceToNat, okD_int, okD_bl, okD_lst, okD_tup, okD_non, okL_nil, okL_cons, okD_str, okL_int, eqD_int, eqD_bl, eqD_str, eqD_tup, eqD_lst, eqL_cons, eqL_nil, eqL_cn, eqL_nc, eqL_int, Bool.and_eq_true, Bool.or_eq_true, Bool.not_eq_true', Bool.and_false, Bool.false_and, Bool.or_false, Bool.false_or, Bool.or_true, Bool.true_or, Bool.and_true, Bool.true_and, Bool.and_self, wIsT2, wDct0, wLstOf, wRepF, wAsgH, DV.hN, hIx, hCons, hNil, hTup, wLM, gCnt, gIdx, gList, gSorted, wDctO, wPar3, wAppPop, wRaise0, wRaise1, wTry, wIsE, wAct, wFl, flD, gAnyX, gSumX, wCatF, wSSet, wLstR1, wLstR2, wTupR1, wFld, fld_rounds, dR, List.length_map]
      refine ⟨by omega, _, p.a1, ?_⟩
      unfold dTab
      (try simp only [wSeq, wAsg, wOwn, wF, wLc, wSkip, wBrk, wCnt, wRet, wRetF, wRetN, wDrop, wIfS, wPar, wFor, wWh, wV, wApp, wExt, wSetIx, wAug, wVal, wLook, wC, wOp, wTst, wChain, wAnd, wOr, wNot, wAndV, wOrV, wNotV, wIf, wNil, wCons, wTup, wLst, wCall, wCB, wIsT, wiR1, wiR2, wiSq, wiEn, wiZip, gN, gT1, gT2, gT3, gT4, gT5, gT6, gT7, wYes, gAdd, DV.gSub, gMul, gMod, gDiv, gPow, gLt, gLe, gGt, gGe, gCmp, gEq, gNe, gIs, gIsN, DV.isNon, gIn, gNotIn, gIx, gSlc, wSlc, wNoP, wPart, gLen, gAbs, gInt, gMin2, gMax2, gAll, gAny, gSum, gTuple, wNeg, wRev, wRevX, itemsOf, D.isTy, D.isHand, Sl.toD, big_0, big_1, big_2, big_3, big_4, big_5, big_6, big_7, big_8, big_9, big_10, big_11, big_12, draw_iff, own_ex, val_ex, wipeE, restE, Sl.keep, Option.getD_some, get_z, get_s, set_z, set_s, List.length_cons, List.length_nil, atI_0, atI_1, atI_2, atI_3, atI_4, ixN_5_0, ixN_5_1, ixN_5_2, ixN_5_3, ixN_5_4, D.bl.injEq, D.int.injEq, D.lst.injEq, D.tup.injEq, D.str.injEq, Sl.own.injEq, Sl.val.injEq, Option.some.injEq, exists_eq_left', exists_eq_left, exists_eq', exists_eq, or_true, true_or, or_false, false_or, CMul, CPow, natAbs_10, natAbs_2, Int.cast_ofNat_Int, Nat.reducePow, exists_and_left, exists_const, and_assoc, true_and, and_true, and_self, false_and, and_false, if_true, if_false, ite_true, ite_false, reduceCtorEq, decide_true, decide_false, decide_eq_true_eq, decide_eq_false_iff_not, Bool.not_true, Bool.not_false, Bool.false_eq_true, List.replicate_zero, List.replicate_succ, List.map_cons, List.map_nil, List.nil_append, List.cons_append, Nat.reduceSub, Nat.reduceAdd, Nat.reduceLeDiff, Nat.reduceLT, Int.reduceLT, Int.reduceLE, Int.reduceAdd, Int.reduceSub, Int.reduceMul, Int.reduceNeg, Int.reduceMod, Int.reduceDiv, Int.reducePow, Int.reduceToNat, okD_int, okD_bl, okD_lst, okD_tup, okD_non, okL_nil, okL_cons, okD_str, okL_int, eqD_int, eqD_bl, eqD_str, eqD_tup, eqD_lst, eqL_cons, eqL_nil, eqL_cn, eqL_nc, eqL_int, Bool.and_eq_true, Bool.or_eq_true, Bool.not_eq_true', Bool.and_false, Bool.false_and, Bool.or_false, Bool.false_or, Bool.or_true, Bool.true_or, Bool.and_true, Bool.true_and, Bool.and_self, wIsT2, wDct0, wLstOf, wRepF, wAsgH, DV.hN, hIx, hCons, hNil, hTup, wLM, gCnt, gIdx, gList, gSorted, wDctO, wPar3, wAppPop, wRaise0, wRaise1, wTry, wIsE, wAct, wFl, flD, gAnyX, gSumX, wCatF, wSSet, wLstR1, wLstR2, wTupR1, wFld])
      refine ⟨_, p.a2, ?_⟩
      unfold dT
      (try simp only [wSeq, wAsg, wOwn, wF, wLc, wSkip, wBrk, wCnt, wRet, wRetF, wRetN, wDrop, wIfS, wPar, wFor, wWh, wV, wApp, wExt, wSetIx, wAug, wVal, wLook, wC, wOp, wTst, wChain, wAnd, wOr, wNot, wAndV, wOrV, wNotV, wIf, wNil, wCons, wTup, wLst, wCall, wCB, wIsT, wiR1, wiR2, wiSq, wiEn, wiZip, gN, gT1, gT2, gT3, gT4, gT5, gT6, gT7, wYes, gAdd, DV.gSub, gMul, gMod, gDiv, gPow, gLt, gLe, gGt, gGe, gCmp, gEq, gNe, gIs, gIsN, DV.isNon, gIn, gNotIn, gIx, gSlc, wSlc, wNoP, wPart, gLen, gAbs, gInt, gMin2, gMax2, gAll, gAny, gSum, gTuple, wNeg, wRev, wRevX, itemsOf, D.isTy, D.isHand, Sl.toD, big_0, big_1, big_2, big_3, big_4, big_5, big_6, big_7, big_8, big_9, big_10, big_11, big_12, draw_iff, own_ex, val_ex, wipeE, restE, Sl.keep, Option.getD_some, get_z, get_s, set_z, set_s, List.length_cons, List.length_nil, atI_0, atI_1, atI_2, atI_3, atI_4, ixN_5_0, ixN_5_1, ixN_5_2, ixN_5_3, ixN_5_4, D.bl.injEq, D.int.injEq, D.lst.injEq, D.tup.injEq, D.str.injEq, Sl.own.injEq, Sl.val.injEq, Option.some.injEq, exists_eq_left', exists_eq_left, exists_eq', exists_eq, or_true, true_or, or_false, false_or, CMul, CPow, natAbs_10, natAbs_2, Int.cast_ofNat_Int, Nat.reducePow, exists_and_left, exists_const, and_assoc, true_and, and_true, and_self, false_and, and_false, if_true, if_false, ite_true, ite_false, reduceCtorEq, decide_true, decide_false, decide_eq_true_eq, decide_eq_false_iff_not, Bool.not_true, Bool.not_false, Bool.false_eq_true, List.replicate_zero, List.replicate_succ, List.map_cons, List.map_nil, List.nil_append, List.cons_append, Nat.reduceSub, Nat.reduceAdd, Nat.reduceLeDiff, Nat.reduceLT, Int.reduceLT, Int.reduceLE, Int.reduceAdd, Int.reduceSub, Int.reduceMul, Int.reduceNeg, Int.reduceMod, Int.reduceDiv, Int.reducePow, Int.reduceToNat, okD_int, okD_bl, okD_lst, okD_tup, okD_non, okL_nil, okL_cons, okD_str, okL_int, eqD_int, eqD_bl, eqD_str, eqD_tup, eqD_lst, eqL_cons, eqL_nil, eqL_cn, eqL_nc, eqL_int, Bool.and_eq_true, Bool.or_eq_true, Bool.not_eq_true', Bool.and_false, Bool.false_and, Bool.or_false, Bool.false_or, Bool.or_true, Bool.true_or, Bool.and_true, Bool.true_and, Bool.and_self, wIsT2, wDct0, wLstOf, wRepF, wAsgH, DV.hN, hIx, hCons, hNil, hTup, wLM, gCnt, gIdx, gList, gSorted, wDctO, wPar3, wAppPop, wRaise0, wRaise1, wTry, wIsE, wAct, wFl, flD, gAnyX, gSumX, wCatF, wSSet, wLstR1, wLstR2, wTupR1, wFld])
      refine ⟨_, p.a3, ?_⟩
      exact hn _ ⟨k + 1, ys, _, _, _, rfl, fun x hx => hy x (List.mem_cons_of_mem _ hx), p.lo, p.hi, by simp only [List.length_cons] at hk; omega, h2, rfl⟩
/-- a word of a scheme -/
def wordD (s : Int) (d : D) : Bool := szD 0 24 d && belowD s d
theorem sp_is_word {d : D} (h : Fig d) (hq : Q (.bl (wordD s d))) : T_is_word [.int s, d] Q E := by
  rw [T_is_word_eq]; unfold wFn B_is_word
  unfold wordD at hq
  simp only [wSeq, wAsg, wOwn, wF, wLc, wSkip, wBrk, wCnt, wRet, wRetF, wRetN, wDrop, wIfS, wPar, wFor, wWh, wV, wApp, wExt, wSetIx, wAug, wVal, wLook, wC, wOp, wTst, wChain, wAnd, wOr, wNot, wAndV, wOrV, wNotV, wIf, wNil, wCons, wTup, wLst, wCall, wCB, wIsT, wiR1, wiR2, wiSq, wiEn, wiZip, gN, gT1, gT2, gT3, gT4, gT5, gT6, gT7, wYes, gAdd, DV.gSub, gMul, gMod, gDiv, gPow, gLt, gLe, gGt, gGe, gCmp, gEq, gNe, gIs, gIsN, DV.isNon, gIn, gNotIn, gIx, gSlc, wSlc, wNoP, wPart, gLen, gAbs, gInt, gMin2, gMax2, gAll, gAny, gSum, gTuple, wNeg, wRev, wRevX, itemsOf, D.isTy, D.isHand, Sl.toD, big_0, big_1, big_2, big_3, big_4, big_5, big_6, big_7, big_8, big_9, big_10, big_11, big_12, draw_iff, own_ex, val_ex, wipeE, restE, Sl.keep, Option.getD_some, get_z, get_s, set_z, set_s, List.length_cons, List.length_nil, atI_0, atI_1, atI_2, atI_3, atI_4, ixN_5_0, ixN_5_1, ixN_5_2, ixN_5_3, ixN_5_4, D.bl.injEq, D.int.injEq, D.lst.injEq, D.tup.injEq, D.str.injEq, Sl.own.injEq, Sl.val.injEq, Option.some.injEq, exists_eq_left', exists_eq_left, exists_eq', exists_eq, or_true, true_or, or_false, false_or, CMul, CPow, natAbs_10, natAbs_2, Int.cast_ofNat_Int, Nat.reducePow, exists_and_left, exists_const, and_assoc, true_and, and_true, and_self, false_and, and_false, if_true, if_false, ite_true, ite_false, reduceCtorEq, decide_true, decide_false, decide_eq_true_eq, decide_eq_false_iff_not, Bool.not_true, Bool.not_false, Bool.false_eq_true, List.replicate_zero, List.replicate_succ, List.map_cons, List.map_nil, List.nil_append, List.cons_append, Nat.reduceSub, Nat.reduceAdd, Nat.reduceLeDiff, Nat.reduceLT, Int.reduceLT, Int.reduceLE, Int.reduceAdd, Int.reduceSub, Int.reduceMul, Int.reduceNeg, Int.reduceMod, Int.reduceDiv, Int.reducePow, Int.reduceToNat, okD_int, okD_bl, okD_lst, okD_tup, okD_non, okL_nil, okL_cons, okD_str, okL_int, eqD_int, eqD_bl, eqD_str, eqD_tup, eqD_lst, eqL_cons, eqL_nil, eqL_cn, eqL_nc, eqL_int, Bool.and_eq_true, Bool.or_eq_true, Bool.not_eq_true', Bool.and_false, Bool.false_and, Bool.or_false, Bool.false_or, Bool.or_true, Bool.true_or, Bool.and_true, Bool.true_and, Bool.and_self, wIsT2, wDct0, wLstOf, wRepF, wAsgH, DV.hN, hIx, hCons, hNil, hTup, wLM, gCnt, gIdx, gList, gSorted, wDctO, wPar3, wAppPop, wRaise0, wRaise1, wTry, wIsE, wAct, wFl, flD, gAnyX, gSumX, wCatF, wSSet, wLstR1, wLstR2, wTupR1, wFld, sp_is_sized h.1 (fun xs e => (h.2 xs e).1)]
  cases hz : szD 0 24 d with
  | false =>
    rw [hz] at hq
    (try simp only [wSeq, wAsg, wOwn, wF, wLc, wSkip, wBrk, wCnt, wRet, wRetF, wRetN, wDrop, wIfS, wPar, wFor, wWh, wV, wApp, wExt, wSetIx, wAug, wVal, wLook, wC, wOp, wTst, wChain, wAnd, wOr, wNot, wAndV, wOrV, wNotV, wIf, wNil, wCons, wTup, wLst, wCall, wCB, wIsT, wiR1, wiR2, wiSq, wiEn, wiZip, gN, gT1, gT2, gT3, gT4, gT5, gT6, gT7, wYes, gAdd, DV.gSub, gMul, gMod, gDiv, gPow, gLt, gLe, gGt, gGe, gCmp, gEq, gNe, gIs, gIsN, DV.isNon, gIn, gNotIn, gIx, gSlc, wSlc, wNoP, wPart, gLen, gAbs, gInt, gMin2, gMax2, gAll, gAny, gSum, gTuple, wNeg, wRev, wRevX, itemsOf, D.isTy, D.isHand, Sl.toD, big_0, big_1, big_2, big_3, big_4, big_5, big_6, big_7, big_8, big_9, big_10, big_11, big_12, draw_iff, own_ex, val_ex, wipeE, restE, Sl.keep, Option.getD_some, get_z, get_s, set_z, set_s, List.length_cons, List.length_nil, atI_0, atI_1, atI_2, atI_3, atI_4, ixN_5_0, ixN_5_1, ixN_5_2, ixN_5_3, ixN_5_4, D.bl.injEq, D.int.injEq, D.lst.injEq, D.tup.injEq, D.str.injEq, Sl.own.injEq, Sl.val.injEq, Option.some.injEq, exists_eq_left', exists_eq_left, exists_eq', exists_eq, or_true, true_or, or_false, false_or, CMul, CPow, natAbs_10, natAbs_2, Int.cast_ofNat_Int, Nat.reducePow, exists_and_left, exists_const, and_assoc, true_and, and_true, and_self, false_and, and_false, if_true, if_false, ite_true, ite_false, reduceCtorEq, decide_true, decide_false, decide_eq_true_eq, decide_eq_false_iff_not, Bool.not_true, Bool.not_false, Bool.false_eq_true, List.replicate_zero, List.replicate_succ, List.map_cons, List.map_nil, List.nil_append, List.cons_append, Nat.reduceSub, Nat.reduceAdd, Nat.reduceLeDiff, Nat.reduceLT, Int.reduceLT, Int.reduceLE, Int.reduceAdd, Int.reduceSub, Int.reduceMul, Int.reduceNeg, Int.reduceMod, Int.reduceDiv, Int.reducePow, Int.reduceToNat, okD_int, okD_bl, okD_lst, okD_tup, okD_non, okL_nil, okL_cons, okD_str, okL_int, eqD_int, eqD_bl, eqD_str, eqD_tup, eqD_lst, eqL_cons, eqL_nil, eqL_cn, eqL_nc, eqL_int, Bool.and_eq_true, Bool.or_eq_true, Bool.not_eq_true', Bool.and_false, Bool.false_and, Bool.or_false, Bool.false_or, Bool.or_true, Bool.true_or, Bool.and_true, Bool.true_and, Bool.and_self, wIsT2, wDct0, wLstOf, wRepF, wAsgH, DV.hN, hIx, hCons, hNil, hTup, wLM, gCnt, gIdx, gList, gSorted, wDctO, wPar3, wAppPop, wRaise0, wRaise1, wTry, wIsE, wAct, wFl, flD, gAnyX, gSumX, wCatF, wSSet, wLstR1, wLstR2, wTupR1, wFld])
    exact hq
  | true =>
    rw [hz] at hq
    (try simp only [wSeq, wAsg, wOwn, wF, wLc, wSkip, wBrk, wCnt, wRet, wRetF, wRetN, wDrop, wIfS, wPar, wFor, wWh, wV, wApp, wExt, wSetIx, wAug, wVal, wLook, wC, wOp, wTst, wChain, wAnd, wOr, wNot, wAndV, wOrV, wNotV, wIf, wNil, wCons, wTup, wLst, wCall, wCB, wIsT, wiR1, wiR2, wiSq, wiEn, wiZip, gN, gT1, gT2, gT3, gT4, gT5, gT6, gT7, wYes, gAdd, DV.gSub, gMul, gMod, gDiv, gPow, gLt, gLe, gGt, gGe, gCmp, gEq, gNe, gIs, gIsN, DV.isNon, gIn, gNotIn, gIx, gSlc, wSlc, wNoP, wPart, gLen, gAbs, gInt, gMin2, gMax2, gAll, gAny, gSum, gTuple, wNeg, wRev, wRevX, itemsOf, D.isTy, D.isHand, Sl.toD, big_0, big_1, big_2, big_3, big_4, big_5, big_6, big_7, big_8, big_9, big_10, big_11, big_12, draw_iff, own_ex, val_ex, wipeE, restE, Sl.keep, Option.getD_some, get_z, get_s, set_z, set_s, List.length_cons, List.length_nil, atI_0, atI_1, atI_2, atI_3, atI_4, ixN_5_0, ixN_5_1, ixN_5_2, ixN_5_3, ixN_5_4, D.bl.injEq, D.int.injEq, D.lst.injEq, D.tup.injEq, D.str.injEq, Sl.own.injEq, Sl.val.injEq, Option.some.injEq, exists_eq_left', exists_eq_left, exists_eq', exists_eq, or_true, true_or, or_false, false_or, CMul, CPow, natAbs_10, natAbs_2, Int.cast_ofNat_Int, Nat.reducePow, exists_and_left, exists_const, and_assoc, true_and, and_true, and_self, false_and, and_false, if_true, if_false, ite_true, ite_false, reduceCtorEq, decide_true, decide_false, decide_eq_true_eq, decide_eq_false_iff_not, Bool.not_true, Bool.not_false, Bool.false_eq_true, List.replicate_zero, List.replicate_succ, List.map_cons, List.map_nil, List.nil_append, List.cons_append, Nat.reduceSub, Nat.reduceAdd, Nat.reduceLeDiff, Nat.reduceLT, Int.reduceLT, Int.reduceLE, Int.reduceAdd, Int.reduceSub, Int.reduceMul, Int.reduceNeg, Int.reduceMod, Int.reduceDiv, Int.reducePow, Int.reduceToNat, okD_int, okD_bl, okD_lst, okD_tup, okD_non, okL_nil, okL_cons, okD_str, okL_int, eqD_int, eqD_bl, eqD_str, eqD_tup, eqD_lst, eqL_cons, eqL_nil, eqL_cn, eqL_nc, eqL_int, Bool.and_eq_true, Bool.or_eq_true, Bool.not_eq_true', Bool.and_false, Bool.false_and, Bool.or_false, Bool.false_or, Bool.or_true, Bool.true_or, Bool.and_true, Bool.true_and, Bool.and_self, wIsT2, wDct0, wLstOf, wRepF, wAsgH, DV.hN, hIx, hCons, hNil, hTup, wLM, gCnt, gIdx, gList, gSorted, wDctO, wPar3, wAppPop, wRaise0, wRaise1, wTry, wIsE, wAct, wFl, flD, gAnyX, gSumX, wCatF, wSSet, wLstR1, wLstR2, wTupR1, wFld])
    exact sp_are_below h hq
theorem sp_check_word {d : D} (h : Fig d) (h1 : wordD s d = true → Q .non) (h0 : wordD s d = false → E ("NoWord", [])) : T_check_word [.int s, d] Q E := by
  rw [T_check_word_eq]; unfold wFn B_check_word
  (try simp only [wSeq, wAsg, wOwn, wF, wLc, wSkip, wBrk, wCnt, wRet, wRetF, wRetN, wDrop, wIfS, wPar, wFor, wWh, wV, wApp, wExt, wSetIx, wAug, wVal, wLook, wC, wOp, wTst, wChain, wAnd, wOr, wNot, wAndV, wOrV, wNotV, wIf, wNil, wCons, wTup, wLst, wCall, wCB, wIsT, wiR1, wiR2, wiSq, wiEn, wiZip, gN, gT1, gT2, gT3, gT4, gT5, gT6, gT7, wYes, gAdd, DV.gSub, gMul, gMod, gDiv, gPow, gLt, gLe, gGt, gGe, gCmp, gEq, gNe, gIs, gIsN, DV.isNon, gIn, gNotIn, gIx, gSlc, wSlc, wNoP, wPart, gLen, gAbs, gInt, gMin2, gMax2, gAll, gAny, gSum, gTuple, wNeg, wRev, wRevX, itemsOf, D.isTy, D.isHand, Sl.toD, big_0, big_1, big_2, big_3, big_4, big_5, big_6, big_7, big_8, big_9, big_10, big_11, big_12, draw_iff, own_ex, val_ex, wipeE, restE, Sl.keep, Option.getD_some, get_z, get_s, set_z, set_s, List.length_cons, List.length_nil, atI_0, atI_1, atI_2, atI_3, atI_4, ixN_5_0, ixN_5_1, ixN_5_2, ixN_5_3, ixN_5_4, D.bl.injEq, D.int.injEq, D.lst.injEq, D.tup.injEq, D.str.injEq, Sl.own.injEq, Sl.val.injEq, Option.some.injEq, exists_eq_left', exists_eq_left, exists_eq', exists_eq, or_true, true_or, or_false, false_or, CMul, CPow, natAbs_10, natAbs_2, Int.cast_ofNat_Int, Nat.reducePow, exists_and_left, exists_const, and_assoc, true_and, and_true, and_self, false_and, and_false, if_true, if_false, ite_true, ite_false, reduceCtorEq, decide_true, decide_false, decide_eq_true_eq, decide_eq_false_iff_not, Bool.not_true, Bool.not_false, Bool.false_eq_true, List.replicate_zero, List.replicate_succ, List.map_cons, List.map_nil, List.nil_append, List.cons_append, Nat.reduceSub, Nat.reduceAdd, Nat.reduceLeDiff, Nat.reduceLT, Int.reduceLT, Int.reduceLE, Int.reduceAdd, Int.reduceSub, Int.reduceMul, Int.reduceNeg, Int.reduceMod, Int.reduceDiv, Int.reducePow, Int.reduceToNat, okD_int, okD_bl, okD_lst, okD_tup, okD_non, okL_nil, okL_cons, okD_str, okL_int, eqD_int, eqD_bl, eqD_str, eqD_tup, eqD_lst, eqL_cons, eqL_nil, eqL_cn, eqL_nc, eqL_int, Bool.and_eq_true, Bool.or_eq_true, Bool.not_eq_true', Bool.and_false, Bool.false_and, Bool.or_false, Bool.false_or, Bool.or_true, Bool.true_or, Bool.and_true, Bool.true_and, Bool.and_self, wIsT2, wDct0, wLstOf, wRepF, wAsgH, DV.hN, hIx, hCons, hNil, hTup, wLM, gCnt, gIdx, gList, gSorted, wDctO, wPar3, wAppPop, wRaise0, wRaise1, wTry, wIsE, wAct, wFl, flD, gAnyX, gSumX, wCatF, wSSet, wLstR1, wLstR2, wTupR1, wFld])
  refine sp_is_word h ?_
  cases hw : wordD s d with
  | true =>
    (try simp only [wSeq, wAsg, wOwn, wF, wLc, wSkip, wBrk, wCnt, wRet, wRetF, wRetN, wDrop, wIfS, wPar, wFor, wWh, wV, wApp, wExt, wSetIx, wAug, wVal, wLook, wC, wOp, wTst, wChain, wAnd, wOr, wNot, wAndV, wOrV, wNotV, wIf, wNil, wCons, wTup, wLst, wCall, wCB, wIsT, wiR1, wiR2, wiSq, wiEn, wiZip, gN, gT1, gT2, gT3, gT4, gT5, gT6, gT7, wYes, gAdd, DV.gSub, gMul, gMod, gDiv, gPow, gLt, gLe, gGt, gGe, gCmp, gEq, gNe, gIs, gIsN, DV.isNon, gIn, gNotIn, gIx, gSlc, wSlc, wNoP, wPart, gLen, gAbs, gInt, gMin2, gMax2, gAll, gAny, gSum, gTuple, wNeg, wRev, wRevX, itemsOf, D.isTy, D.isHand, Sl.toD, big_0, big_1, big_2, big_3, big_4, big_5, big_6, big_7, big_8, big_9, big_10, big_11, big_12, draw_iff, own_ex, val_ex, wipeE, restE, Sl.keep, Option.getD_some, get_z, get_s, set_z, set_s, List.length_cons, List.length_nil, atI_0, atI_1, atI_2, atI_3, atI_4, ixN_5_0, ixN_5_1, ixN_5_2, ixN_5_3, ixN_5_4, D.bl.injEq, D.int.injEq, D.lst.injEq, D.tup.injEq, D.str.injEq, Sl.own.injEq, Sl.val.injEq, Option.some.injEq, exists_eq_left', exists_eq_left, exists_eq', exists_eq, or_true, true_or, or_false, false_or, CMul, CPow, natAbs_10, natAbs_2, Int.cast_ofNat_Int, Nat.reducePow, exists_and_left, exists_const, and_assoc, true_and, and_true, and_self, false_and, and_false, if_true, if_false, ite_true, ite_false, reduceCtorEq, decide_true, decide_false, decide_eq_true_eq, decide_eq_false_iff_not, Bool.not_true, Bool.not_false, Bool.false_eq_true, List.replicate_zero, List.replicate_succ, List.map_cons, List.map_nil, List.nil_append, List.cons_append, Nat.reduceSub, Nat.reduceAdd, Nat.reduceLeDiff, Nat.reduceLT, Int.reduceLT, Int.reduceLE, Int.reduceAdd, Int.reduceSub, Int.reduceMul, Int.reduceNeg, Int.reduceMod, Int.reduceDiv, Int.reducePow, Int.reduceToNat, okD_int, okD_bl, okD_lst, okD_tup, okD_non, okL_nil, okL_cons, okD_str, okL_int, eqD_int, eqD_bl, eqD_str, eqD_tup, eqD_lst, eqL_cons, eqL_nil, eqL_cn, eqL_nc, eqL_int, Bool.and_eq_true, Bool.or_eq_true, Bool.not_eq_true', Bool.and_false, Bool.false_and, Bool.or_false, Bool.false_or, Bool.or_true, Bool.true_or, Bool.and_true, Bool.true_and, Bool.and_self, wIsT2, wDct0, wLstOf, wRepF, wAsgH, DV.hN, hIx, hCons, hNil, hTup, wLM, gCnt, gIdx, gList, gSorted, wDctO, wPar3, wAppPop, wRaise0, wRaise1, wTry, wIsE, wAct, wFl, flD, gAnyX, gSumX, wCatF, wSSet, wLstR1, wLstR2, wTupR1, wFld])
    exact h1 hw
  | false =>
    (try simp only [wSeq, wAsg, wOwn, wF, wLc, wSkip, wBrk, wCnt, wRet, wRetF, wRetN, wDrop, wIfS, wPar, wFor, wWh, wV, wApp, wExt, wSetIx, wAug, wVal, wLook, wC, wOp, wTst, wChain, wAnd, wOr, wNot, wAndV, wOrV, wNotV, wIf, wNil, wCons, wTup, wLst, wCall, wCB, wIsT, wiR1, wiR2, wiSq, wiEn, wiZip, gN, gT1, gT2, gT3, gT4, gT5, gT6, gT7, wYes, gAdd, DV.gSub, gMul, gMod, gDiv, gPow, gLt, gLe, gGt, gGe, gCmp, gEq, gNe, gIs, gIsN, DV.isNon, gIn, gNotIn, gIx, gSlc, wSlc, wNoP, wPart, gLen, gAbs, gInt, gMin2, gMax2, gAll, gAny, gSum, gTuple, wNeg, wRev, wRevX, itemsOf, D.isTy, D.isHand, Sl.toD, big_0, big_1, big_2, big_3, big_4, big_5, big_6, big_7, big_8, big_9, big_10, big_11, big_12, draw_iff, own_ex, val_ex, wipeE, restE, Sl.keep, Option.getD_some, get_z, get_s, set_z, set_s, List.length_cons, List.length_nil, atI_0, atI_1, atI_2, atI_3, atI_4, ixN_5_0, ixN_5_1, ixN_5_2, ixN_5_3, ixN_5_4, D.bl.injEq, D.int.injEq, D.lst.injEq, D.tup.injEq, D.str.injEq, Sl.own.injEq, Sl.val.injEq, Option.some.injEq, exists_eq_left', exists_eq_left, exists_eq', exists_eq, or_true, true_or, or_false, false_or, CMul, CPow, natAbs_10, natAbs_2, Int.cast_ofNat_Int, Nat.reducePow, exists_and_left, exists_const, and_assoc, true_and, and_true, and_self, false_and, and_false, if_true, if_false, ite_true, ite_false, reduceCtorEq, decide_true, decide_false, decide_eq_true_eq, decide_eq_false_iff_not, Bool.not_true, Bool.not_false, Bool.false_eq_true, List.replicate_zero, List.replicate_succ, List.map_cons, List.map_nil, List.nil_append, List.cons_append, Nat.reduceSub, Nat.reduceAdd, Nat.reduceLeDiff, Nat.reduceLT, Int.reduceLT, Int.reduceLE, Int.reduceAdd, Int.reduceSub, Int.reduceMul, Int.reduceNeg, Int.reduceMod, Int.reduceDiv, Int.reducePow, Int.reduceToNat, okD_int, okD_bl, okD_lst, okD_tup, okD_non, okL_nil, okL_cons, okD_str, okL_int, eqD_int, eqD_bl, eqD_str, eqD_tup, eqD_lst, eqL_cons, eqL_nil, eqL_cn, eqL_nc, eqL_int, Bool.and_eq_true, Bool.or_eq_true, Bool.not_eq_true', Bool.and_false, Bool.false_and, Bool.or_false, Bool.false_or, Bool.or_true, Bool.true_or, Bool.and_true, Bool.true_and, Bool.and_self, wIsT2, wDct0, wLstOf, wRepF, wAsgH, DV.hN, hIx, hCons, hNil, hTup, wLM, gCnt, gIdx, gList, gSorted, wDctO, wPar3, wAppPop, wRaise0, wRaise1, wTry, wIsE, wAct, wFl, flD, gAnyX, gSumX, wCatF, wSSet, wLstR1, wLstR2, wTupR1, wFld])
    exact h0 hw
/-- signs of a word of 24 at most -/
def Wd (s : Int) (w : List Int) : Prop := w.length ≤ 24 ∧ ∀ x ∈ w, 0 ≤ x ∧ x < s
theorem Wd.fig {w : List Int} (h : Wd s w) : Fig (.tup (w.map D.int)) := .ints (by have := h.1; omega)
theorem Wd.word {w : List Int} (h : Wd s w) : wordD s (.tup (w.map D.int)) = true := by
  unfold wordD
  rw [sz_map (by omega) (by have := h.1; omega), below_ints h.2]; rfl
theorem sp_state_of (o : SchOk s m R) {w : List Int} (hw : Wd s w) (h : Q (.int (run R 0 0 w))) : T_state_of [dSch s m R, .tup (w.map D.int)] Q E := by
  rw [T_state_of_eq]; unfold wFn B_state_of
  simp only [wSeq, wAsg, wOwn, wF, wLc, wSkip, wBrk, wCnt, wRet, wRetF, wRetN, wDrop, wIfS, wPar, wFor, wWh, wV, wApp, wExt, wSetIx, wAug, wVal, wLook, wC, wOp, wTst, wChain, wAnd, wOr, wNot, wAndV, wOrV, wNotV, wIf, wNil, wCons, wTup, wLst, wCall, wCB, wIsT, wiR1, wiR2, wiSq, wiEn, wiZip, gN, gT1, gT2, gT3, gT4, gT5, gT6, gT7, wYes, gAdd, DV.gSub, gMul, gMod, gDiv, gPow, gLt, gLe, gGt, gGe, gCmp, gEq, gNe, gIs, gIsN, DV.isNon, gIn, gNotIn, gIx, gSlc, wSlc, wNoP, wPart, gLen, gAbs, gInt, gMin2, gMax2, gAll, gAny, gSum, gTuple, wNeg, wRev, wRevX, itemsOf, D.isTy, D.isHand, Sl.toD, big_0, big_1, big_2, big_3, big_4, big_5, big_6, big_7, big_8, big_9, big_10, big_11, big_12, draw_iff, own_ex, val_ex, wipeE, restE, Sl.keep, Option.getD_some, get_z, get_s, set_z, set_s, List.length_cons, List.length_nil, atI_0, atI_1, atI_2, atI_3, atI_4, ixN_5_0, ixN_5_1, ixN_5_2, ixN_5_3, ixN_5_4, D.bl.injEq, D.int.injEq, D.lst.injEq, D.tup.injEq, D.str.injEq, Sl.own.injEq, Sl.val.injEq, Option.some.injEq, exists_eq_left', exists_eq_left, exists_eq', exists_eq, or_true, true_or, or_false, false_or, CMul, CPow, natAbs_10, natAbs_2, Int.cast_ofNat_Int, Nat.reducePow, exists_and_left, exists_const, and_assoc, true_and, and_true, and_self, false_and, and_false, if_true, if_false, ite_true, ite_false, reduceCtorEq, decide_true, decide_false, decide_eq_true_eq, decide_eq_false_iff_not, Bool.not_true, Bool.not_false, Bool.false_eq_true, List.replicate_zero, List.replicate_succ, List.map_cons, List.map_nil, List.nil_append, List.cons_append, Nat.reduceSub, Nat.reduceAdd, Nat.reduceLeDiff, Nat.reduceLT, Int.reduceLT, Int.reduceLE, Int.reduceAdd, Int.reduceSub, Int.reduceMul, Int.reduceNeg, Int.reduceMod, Int.reduceDiv, Int.reducePow, Int.reduceToNat, okD_int, okD_bl, okD_lst, okD_tup, okD_non, okL_nil, okL_cons, okD_str, okL_int, eqD_int, eqD_bl, eqD_str, eqD_tup, eqD_lst, eqL_cons, eqL_nil, eqL_cn, eqL_nc, eqL_int, Bool.and_eq_true, Bool.or_eq_true, Bool.not_eq_true', Bool.and_false, Bool.false_and, Bool.or_false, Bool.false_or, Bool.or_true, Bool.true_or, Bool.and_true, Bool.true_and, Bool.and_self, wIsT2, wDct0, wLstOf, wRepF, wAsgH, DV.hN, hIx, hCons, hNil, hTup, wLM, gCnt, gIdx, gList, gSorted, wDctO, wPar3, wAppPop, wRaise0, wRaise1, wTry, wIsE, wAct, wFl, flD, gAnyX, gSumX, wCatF, wSSet, wLstR1, wLstR2, wTupR1, wFld, fld_signs]
  refine sp_check_word hw.fig (fun _ => ?_) fun z => by rw [hw.word] at z; cases z
  unfold B_state_of_2
  (try simp only [wSeq, wAsg, wOwn, wF, wLc, wSkip, wBrk, wCnt, wRet, wRetF, wRetN, wDrop, wIfS, wPar, wFor, wWh, wV, wApp, wExt, wSetIx, wAug, wVal, wLook, wC, wOp, wTst, wChain, wAnd, wOr, wNot, wAndV, wOrV, wNotV, wIf, wNil, wCons, wTup, wLst, wCall, wCB, wIsT, wiR1, wiR2, wiSq, wiEn, wiZip, gN, gT1, gT2, gT3, gT4, gT5, gT6, gT7, wYes, gAdd, DV.gSub, gMul, gMod, gDiv, gPow, gLt, gLe, gGt, gGe, gCmp, gEq, gNe, gIs, gIsN, DV.isNon, gIn, gNotIn, gIx, gSlc, wSlc, wNoP, wPart, gLen, gAbs, gInt, gMin2, gMax2, gAll, gAny, gSum, gTuple, wNeg, wRev, wRevX, itemsOf, D.isTy, D.isHand, Sl.toD, big_0, big_1, big_2, big_3, big_4, big_5, big_6, big_7, big_8, big_9, big_10, big_11, big_12, draw_iff, own_ex, val_ex, wipeE, restE, Sl.keep, Option.getD_some, get_z, get_s, set_z, set_s, List.length_cons, List.length_nil, atI_0, atI_1, atI_2, atI_3, atI_4, ixN_5_0, ixN_5_1, ixN_5_2, ixN_5_3, ixN_5_4, D.bl.injEq, D.int.injEq, D.lst.injEq, D.tup.injEq, D.str.injEq, Sl.own.injEq, Sl.val.injEq, Option.some.injEq, exists_eq_left', exists_eq_left, exists_eq', exists_eq, or_true, true_or, or_false, false_or, CMul, CPow, natAbs_10, natAbs_2, Int.cast_ofNat_Int, Nat.reducePow, exists_and_left, exists_const, and_assoc, true_and, and_true, and_self, false_and, and_false, if_true, if_false, ite_true, ite_false, reduceCtorEq, decide_true, decide_false, decide_eq_true_eq, decide_eq_false_iff_not, Bool.not_true, Bool.not_false, Bool.false_eq_true, List.replicate_zero, List.replicate_succ, List.map_cons, List.map_nil, List.nil_append, List.cons_append, Nat.reduceSub, Nat.reduceAdd, Nat.reduceLeDiff, Nat.reduceLT, Int.reduceLT, Int.reduceLE, Int.reduceAdd, Int.reduceSub, Int.reduceMul, Int.reduceNeg, Int.reduceMod, Int.reduceDiv, Int.reducePow, Int.reduceToNat, okD_int, okD_bl, okD_lst, okD_tup, okD_non, okL_nil, okL_cons, okD_str, okL_int, eqD_int, eqD_bl, eqD_str, eqD_tup, eqD_lst, eqL_cons, eqL_nil, eqL_cn, eqL_nc, eqL_int, Bool.and_eq_true, Bool.or_eq_true, Bool.not_eq_true', Bool.and_false, Bool.false_and, Bool.or_false, Bool.false_or, Bool.or_true, Bool.true_or, Bool.and_true, Bool.true_and, Bool.and_self, wIsT2, wDct0, wLstOf, wRepF, wAsgH, DV.hN, hIx, hCons, hNil, hTup, wLM, gCnt, gIdx, gList, gSorted, wDctO, wPar3, wAppPop, wRaise0, wRaise1, wTry, wIsE, wAct, wFl, flD, gAnyX, gSumX, wCatF, wSSet, wLstR1, wLstR2, wTupR1, wFld])
  exact sp_raw_state o hw.2 (by have := hw.1; omega) h
theorem state_of_bad {d : D} (h : Fig d) (hw : wordD s d = false) (he : E ("NoWord", [])) : T_state_of [dSch s m R, d] Q E := by
  rw [T_state_of_eq]; unfold wFn B_state_of
  simp only [wSeq, wAsg, wOwn, wF, wLc, wSkip, wBrk, wCnt, wRet, wRetF, wRetN, wDrop, wIfS, wPar, wFor, wWh, wV, wApp, wExt, wSetIx, wAug, wVal, wLook, wC, wOp, wTst, wChain, wAnd, wOr, wNot, wAndV, wOrV, wNotV, wIf, wNil, wCons, wTup, wLst, wCall, wCB, wIsT, wiR1, wiR2, wiSq, wiEn, wiZip, gN, gT1, gT2, gT3, gT4, gT5, gT6, gT7, wYes, gAdd, DV.gSub, gMul, gMod, gDiv, gPow, gLt, gLe, gGt, gGe, gCmp, gEq, gNe, gIs, gIsN, DV.isNon, gIn, gNotIn, gIx, gSlc, wSlc, wNoP, wPart, gLen, gAbs, gInt, gMin2, gMax2, gAll, gAny, gSum, gTuple, wNeg, wRev, wRevX, itemsOf, D.isTy, D.isHand, Sl.toD, big_0, big_1, big_2, big_3, big_4, big_5, big_6, big_7, big_8, big_9, big_10, big_11, big_12, draw_iff, own_ex, val_ex, wipeE, restE, Sl.keep, Option.getD_some, get_z, get_s, set_z, set_s, List.length_cons, List.length_nil, atI_0, atI_1, atI_2, atI_3, atI_4, ixN_5_0, ixN_5_1, ixN_5_2, ixN_5_3, ixN_5_4, D.bl.injEq, D.int.injEq, D.lst.injEq, D.tup.injEq, D.str.injEq, Sl.own.injEq, Sl.val.injEq, Option.some.injEq, exists_eq_left', exists_eq_left, exists_eq', exists_eq, or_true, true_or, or_false, false_or, CMul, CPow, natAbs_10, natAbs_2, Int.cast_ofNat_Int, Nat.reducePow, exists_and_left, exists_const, and_assoc, true_and, and_true, and_self, false_and, and_false, if_true, if_false, ite_true, ite_false, reduceCtorEq, decide_true, decide_false, decide_eq_true_eq, decide_eq_false_iff_not, Bool.not_true, Bool.not_false, Bool.false_eq_true, List.replicate_zero, List.replicate_succ, List.map_cons, List.map_nil, List.nil_append, List.cons_append, Nat.reduceSub, Nat.reduceAdd, Nat.reduceLeDiff, Nat.reduceLT, Int.reduceLT, Int.reduceLE, Int.reduceAdd, Int.reduceSub, Int.reduceMul, Int.reduceNeg, Int.reduceMod, Int.reduceDiv, Int.reducePow, Int.reduceToNat, okD_int, okD_bl, okD_lst, okD_tup, okD_non, okL_nil, okL_cons, okD_str, okL_int, eqD_int, eqD_bl, eqD_str, eqD_tup, eqD_lst, eqL_cons, eqL_nil, eqL_cn, eqL_nc, eqL_int, Bool.and_eq_true, Bool.or_eq_true, Bool.not_eq_true', Bool.and_false, Bool.false_and, Bool.or_false, Bool.false_or, Bool.or_true, Bool.true_or, Bool.and_true, Bool.true_and, Bool.and_self, wIsT2, wDct0, wLstOf, wRepF, wAsgH, DV.hN, hIx, hCons, hNil, hTup, wLM, gCnt, gIdx, gList, gSorted, wDctO, wPar3, wAppPop, wRaise0, wRaise1, wTry, wIsE, wAct, wFl, flD, gAnyX, gSumX, wCatF, wSSet, wLstR1, wLstR2, wTupR1, wFld, fld_signs]
  exact sp_check_word h (fun z => by rw [hw] at z; cases z) fun _ => he
theorem sp_is_good_w (o : SchOk s m R) {w : List Int} (hw : Wd s w) (h : Q (.bl (decide (run R 0 0 w = 0)))) : T_is_good [dSch s m R, .tup (w.map D.int)] Q E := by
  rw [T_is_good_eq]; unfold wFn B_is_good
  simp only [wSeq, wAsg, wOwn, wF, wLc, wSkip, wBrk, wCnt, wRet, wRetF, wRetN, wDrop, wIfS, wPar, wFor, wWh, wV, wApp, wExt, wSetIx, wAug, wVal, wLook, wC, wOp, wTst, wChain, wAnd, wOr, wNot, wAndV, wOrV, wNotV, wIf, wNil, wCons, wTup, wLst, wCall, wCB, wIsT, wiR1, wiR2, wiSq, wiEn, wiZip, gN, gT1, gT2, gT3, gT4, gT5, gT6, gT7, wYes, gAdd, DV.gSub, gMul, gMod, gDiv, gPow, gLt, gLe, gGt, gGe, gCmp, gEq, gNe, gIs, gIsN, DV.isNon, gIn, gNotIn, gIx, gSlc, wSlc, wNoP, wPart, gLen, gAbs, gInt, gMin2, gMax2, gAll, gAny, gSum, gTuple, wNeg, wRev, wRevX, itemsOf, D.isTy, D.isHand, Sl.toD, big_0, big_1, big_2, big_3, big_4, big_5, big_6, big_7, big_8, big_9, big_10, big_11, big_12, draw_iff, own_ex, val_ex, wipeE, restE, Sl.keep, Option.getD_some, get_z, get_s, set_z, set_s, List.length_cons, List.length_nil, atI_0, atI_1, atI_2, atI_3, atI_4, ixN_5_0, ixN_5_1, ixN_5_2, ixN_5_3, ixN_5_4, D.bl.injEq, D.int.injEq, D.lst.injEq, D.tup.injEq, D.str.injEq, Sl.own.injEq, Sl.val.injEq, Option.some.injEq, exists_eq_left', exists_eq_left, exists_eq', exists_eq, or_true, true_or, or_false, false_or, CMul, CPow, natAbs_10, natAbs_2, Int.cast_ofNat_Int, Nat.reducePow, exists_and_left, exists_const, and_assoc, true_and, and_true, and_self, false_and, and_false, if_true, if_false, ite_true, ite_false, reduceCtorEq, decide_true, decide_false, decide_eq_true_eq, decide_eq_false_iff_not, Bool.not_true, Bool.not_false, Bool.false_eq_true, List.replicate_zero, List.replicate_succ, List.map_cons, List.map_nil, List.nil_append, List.cons_append, Nat.reduceSub, Nat.reduceAdd, Nat.reduceLeDiff, Nat.reduceLT, Int.reduceLT, Int.reduceLE, Int.reduceAdd, Int.reduceSub, Int.reduceMul, Int.reduceNeg, Int.reduceMod, Int.reduceDiv, Int.reducePow, Int.reduceToNat, okD_int, okD_bl, okD_lst, okD_tup, okD_non, okL_nil, okL_cons, okD_str, okL_int, eqD_int, eqD_bl, eqD_str, eqD_tup, eqD_lst, eqL_cons, eqL_nil, eqL_cn, eqL_nc, eqL_int, Bool.and_eq_true, Bool.or_eq_true, Bool.not_eq_true', Bool.and_false, Bool.false_and, Bool.or_false, Bool.false_or, Bool.or_true, Bool.true_or, Bool.and_true, Bool.true_and, Bool.and_self, wIsT2, wDct0, wLstOf, wRepF, wAsgH, DV.hN, hIx, hCons, hNil, hTup, wLM, gCnt, gIdx, gList, gSorted, wDctO, wPar3, wAppPop, wRaise0, wRaise1, wTry, wIsE, wAct, wFl, flD, gAnyX, gSumX, wCatF, wSSet, wLstR1, wLstR2, wTupR1, wFld, fld_signs, sp_is_sized hw.fig.1 (fun xs e => (hw.fig.2 xs e).1)]
  rw [sz_map (by omega) (by have := hw.1; omega)]
  (try simp only [wSeq, wAsg, wOwn, wF, wLc, wSkip, wBrk, wCnt, wRet, wRetF, wRetN, wDrop, wIfS, wPar, wFor, wWh, wV, wApp, wExt, wSetIx, wAug, wVal, wLook, wC, wOp, wTst, wChain, wAnd, wOr, wNot, wAndV, wOrV, wNotV, wIf, wNil, wCons, wTup, wLst, wCall, wCB, wIsT, wiR1, wiR2, wiSq, wiEn, wiZip, gN, gT1, gT2, gT3, gT4, gT5, gT6, gT7, wYes, gAdd, DV.gSub, gMul, gMod, gDiv, gPow, gLt, gLe, gGt, gGe, gCmp, gEq, gNe, gIs, gIsN, DV.isNon, gIn, gNotIn, gIx, gSlc, wSlc, wNoP, wPart, gLen, gAbs, gInt, gMin2, gMax2, gAll, gAny, gSum, gTuple, wNeg, wRev, wRevX, itemsOf, D.isTy, D.isHand, Sl.toD, big_0, big_1, big_2, big_3, big_4, big_5, big_6, big_7, big_8, big_9, big_10, big_11, big_12, draw_iff, own_ex, val_ex, wipeE, restE, Sl.keep, Option.getD_some, get_z, get_s, set_z, set_s, List.length_cons, List.length_nil, atI_0, atI_1, atI_2, atI_3, atI_4, ixN_5_0, ixN_5_1, ixN_5_2, ixN_5_3, ixN_5_4, D.bl.injEq, D.int.injEq, D.lst.injEq, D.tup.injEq, D.str.injEq, Sl.own.injEq, Sl.val.injEq, Option.some.injEq, exists_eq_left', exists_eq_left, exists_eq', exists_eq, or_true, true_or, or_false, false_or, CMul, CPow, natAbs_10, natAbs_2, Int.cast_ofNat_Int, Nat.reducePow, exists_and_left, exists_const, and_assoc, true_and, and_true, and_self, false_and, and_false, if_true, if_false, ite_true, ite_false, reduceCtorEq, decide_true, decide_false, decide_eq_true_eq, decide_eq_false_iff_not, Bool.not_true, Bool.not_false, Bool.false_eq_true, List.replicate_zero, List.replicate_succ, List.map_cons, List.map_nil, List.nil_append, List.cons_append, Nat.reduceSub, Nat.reduceAdd, Nat.reduceLeDiff, Nat.reduceLT, Int.reduceLT, Int.reduceLE, Int.reduceAdd, Int.reduceSub, Int.reduceMul, Int.reduceNeg, Int.reduceMod, Int.reduceDiv, Int.reducePow, Int.reduceToNat, okD_int, okD_bl, okD_lst, okD_tup, okD_non, okL_nil, okL_cons, okD_str, okL_int, eqD_int, eqD_bl, eqD_str, eqD_tup, eqD_lst, eqL_cons, eqL_nil, eqL_cn, eqL_nc, eqL_int, Bool.and_eq_true, Bool.or_eq_true, Bool.not_eq_true', Bool.and_false, Bool.false_and, Bool.or_false, Bool.false_or, Bool.or_true, Bool.true_or, Bool.and_true, Bool.true_and, Bool.and_self, wIsT2, wDct0, wLstOf, wRepF, wAsgH, DV.hN, hIx, hCons, hNil, hTup, wLM, gCnt, gIdx, gList, gSorted, wDctO, wPar3, wAppPop, wRaise0, wRaise1, wTry, wIsE, wAct, wFl, flD, gAnyX, gSumX, wCatF, wSSet, wLstR1, wLstR2, wTupR1, wFld])
  refine sp_are_below hw.fig ?_
  rw [below_ints hw.2]
  (try simp only [wSeq, wAsg, wOwn, wF, wLc, wSkip, wBrk, wCnt, wRet, wRetF, wRetN, wDrop, wIfS, wPar, wFor, wWh, wV, wApp, wExt, wSetIx, wAug, wVal, wLook, wC, wOp, wTst, wChain, wAnd, wOr, wNot, wAndV, wOrV, wNotV, wIf, wNil, wCons, wTup, wLst, wCall, wCB, wIsT, wiR1, wiR2, wiSq, wiEn, wiZip, gN, gT1, gT2, gT3, gT4, gT5, gT6, gT7, wYes, gAdd, DV.gSub, gMul, gMod, gDiv, gPow, gLt, gLe, gGt, gGe, gCmp, gEq, gNe, gIs, gIsN, DV.isNon, gIn, gNotIn, gIx, gSlc, wSlc, wNoP, wPart, gLen, gAbs, gInt, gMin2, gMax2, gAll, gAny, gSum, gTuple, wNeg, wRev, wRevX, itemsOf, D.isTy, D.isHand, Sl.toD, big_0, big_1, big_2, big_3, big_4, big_5, big_6, big_7, big_8, big_9, big_10, big_11, big_12, draw_iff, own_ex, val_ex, wipeE, restE, Sl.keep, Option.getD_some, get_z, get_s, set_z, set_s, List.length_cons, List.length_nil, atI_0, atI_1, atI_2, atI_3, atI_4, ixN_5_0, ixN_5_1, ixN_5_2, ixN_5_3, ixN_5_4, D.bl.injEq, D.int.injEq, D.lst.injEq, D.tup.injEq, D.str.injEq, Sl.own.injEq, Sl.val.injEq, Option.some.injEq, exists_eq_left', exists_eq_left, exists_eq', exists_eq, or_true, true_or, or_false, false_or, CMul, CPow, natAbs_10, natAbs_2, Int.cast_ofNat_Int, Nat.reducePow, exists_and_left, exists_const, and_assoc, true_and, and_true, and_self, false_and, and_false, if_true, if_false, ite_true, ite_false, reduceCtorEq, decide_true, decide_false, decide_eq_true_eq, decide_eq_false_iff_not, Bool.not_true, Bool.not_false, Bool.false_eq_true, List.replicate_zero, List.replicate_succ, List.map_cons, List.map_nil, List.nil_append, List.cons_append, Nat.reduceSub, Nat.reduceAdd, Nat.reduceLeDiff, Nat.reduceLT, Int.reduceLT, Int.reduceLE, Int.reduceAdd, Int.reduceSub, Int.reduceMul, Int.reduceNeg, Int.reduceMod, Int.reduceDiv, Int.reducePow, Int.reduceToNat, okD_int, okD_bl, okD_lst, okD_tup, okD_non, okL_nil, okL_cons, okD_str, okL_int, eqD_int, eqD_bl, eqD_str, eqD_tup, eqD_lst, eqL_cons, eqL_nil, eqL_cn, eqL_nc, eqL_int, Bool.and_eq_true, Bool.or_eq_true, Bool.not_eq_true', Bool.and_false, Bool.false_and, Bool.or_false, Bool.false_or, Bool.or_true, Bool.true_or, Bool.and_true, Bool.true_and, Bool.and_self, wIsT2, wDct0, wLstOf, wRepF, wAsgH, DV.hN, hIx, hCons, hNil, hTup, wLM, gCnt, gIdx, gList, gSorted, wDctO, wPar3, wAppPop, wRaise0, wRaise1, wTry, wIsE, wAct, wFl, flD, gAnyX, gSumX, wCatF, wSSet, wLstR1, wLstR2, wTupR1, wFld])
  unfold B_is_good_3
  (try simp only [wSeq, wAsg, wOwn, wF, wLc, wSkip, wBrk, wCnt, wRet, wRetF, wRetN, wDrop, wIfS, wPar, wFor, wWh, wV, wApp, wExt, wSetIx, wAug, wVal, wLook, wC, wOp, wTst, wChain, wAnd, wOr, wNot, wAndV, wOrV, wNotV, wIf, wNil, wCons, wTup, wLst, wCall, wCB, wIsT, wiR1, wiR2, wiSq, wiEn, wiZip, gN, gT1, gT2, gT3, gT4, gT5, gT6, gT7, wYes, gAdd, DV.gSub, gMul, gMod, gDiv, gPow, gLt, gLe, gGt, gGe, gCmp, gEq, gNe, gIs, gIsN, DV.isNon, gIn, gNotIn, gIx, gSlc, wSlc, wNoP, wPart, gLen, gAbs, gInt, gMin2, gMax2, gAll, gAny, gSum, gTuple, wNeg, wRev, wRevX, itemsOf, D.isTy, D.isHand, Sl.toD, big_0, big_1, big_2, big_3, big_4, big_5, big_6, big_7, big_8, big_9, big_10, big_11, big_12, draw_iff, own_ex, val_ex, wipeE, restE, Sl.keep, Option.getD_some, get_z, get_s, set_z, set_s, List.length_cons, List.length_nil, atI_0, atI_1, atI_2, atI_3, atI_4, ixN_5_0, ixN_5_1, ixN_5_2, ixN_5_3, ixN_5_4, D.bl.injEq, D.int.injEq, D.lst.injEq, D.tup.injEq, D.str.injEq, Sl.own.injEq, Sl.val.injEq, Option.some.injEq, exists_eq_left', exists_eq_left, exists_eq', exists_eq, or_true, true_or, or_false, false_or, CMul, CPow, natAbs_10, natAbs_2, Int.cast_ofNat_Int, Nat.reducePow, exists_and_left, exists_const, and_assoc, true_and, and_true, and_self, false_and, and_false, if_true, if_false, ite_true, ite_false, reduceCtorEq, decide_true, decide_false, decide_eq_true_eq, decide_eq_false_iff_not, Bool.not_true, Bool.not_false, Bool.false_eq_true, List.replicate_zero, List.replicate_succ, List.map_cons, List.map_nil, List.nil_append, List.cons_append, Nat.reduceSub, Nat.reduceAdd, Nat.reduceLeDiff, Nat.reduceLT, Int.reduceLT, Int.reduceLE, Int.reduceAdd, Int.reduceSub, Int.reduceMul, Int.reduceNeg, Int.reduceMod, Int.reduceDiv, Int.reducePow, Int.reduceToNat, okD_int, okD_bl, okD_lst, okD_tup, okD_non, okL_nil, okL_cons, okD_str, okL_int, eqD_int, eqD_bl, eqD_str, eqD_tup, eqD_lst, eqL_cons, eqL_nil, eqL_cn, eqL_nc, eqL_int, Bool.and_eq_true, Bool.or_eq_true, Bool.not_eq_true', Bool.and_false, Bool.false_and, Bool.or_false, Bool.false_or, Bool.or_true, Bool.true_or, Bool.and_true, Bool.true_and, Bool.and_self, wIsT2, wDct0, wLstOf, wRepF, wAsgH, DV.hN, hIx, hCons, hNil, hTup, wLM, gCnt, gIdx, gList, gSorted, wDctO, wPar3, wAppPop, wRaise0, wRaise1, wTry, wIsE, wAct, wFl, flD, gAnyX, gSumX, wCatF, wSSet, wLstR1, wLstR2, wTupR1, wFld])
  refine sp_raw_state o hw.2 (by have := hw.1; omega) ?_
  (try simp only [wSeq, wAsg, wOwn, wF, wLc, wSkip, wBrk, wCnt, wRet, wRetF, wRetN, wDrop, wIfS, wPar, wFor, wWh, wV, wApp, wExt, wSetIx, wAug, wVal, wLook, wC, wOp, wTst, wChain, wAnd, wOr, wNot, wAndV, wOrV, wNotV, wIf, wNil, wCons, wTup, wLst, wCall, wCB, wIsT, wiR1, wiR2, wiSq, wiEn, wiZip, gN, gT1, gT2, gT3, gT4, gT5, gT6, gT7, wYes, gAdd, DV.gSub, gMul, gMod, gDiv, gPow, gLt, gLe, gGt, gGe, gCmp, gEq, gNe, gIs, gIsN, DV.isNon, gIn, gNotIn, gIx, gSlc, wSlc, wNoP, wPart, gLen, gAbs, gInt, gMin2, gMax2, gAll, gAny, gSum, gTuple, wNeg, wRev, wRevX, itemsOf, D.isTy, D.isHand, Sl.toD, big_0, big_1, big_2, big_3, big_4, big_5, big_6, big_7, big_8, big_9, big_10, big_11, big_12, draw_iff, own_ex, val_ex, wipeE, restE, Sl.keep, Option.getD_some, get_z, get_s, set_z, set_s, List.length_cons, List.length_nil, atI_0, atI_1, atI_2, atI_3, atI_4, ixN_5_0, ixN_5_1, ixN_5_2, ixN_5_3, ixN_5_4, D.bl.injEq, D.int.injEq, D.lst.injEq, D.tup.injEq, D.str.injEq, Sl.own.injEq, Sl.val.injEq, Option.some.injEq, exists_eq_left', exists_eq_left, exists_eq', exists_eq, or_true, true_or, or_false, false_or, CMul, CPow, natAbs_10, natAbs_2, Int.cast_ofNat_Int, Nat.reducePow, exists_and_left, exists_const, and_assoc, true_and, and_true, and_self, false_and, and_false, if_true, if_false, ite_true, ite_false, reduceCtorEq, decide_true, decide_false, decide_eq_true_eq, decide_eq_false_iff_not, Bool.not_true, Bool.not_false, Bool.false_eq_true, List.replicate_zero, List.replicate_succ, List.map_cons, List.map_nil, List.nil_append, List.cons_append, Nat.reduceSub, Nat.reduceAdd, Nat.reduceLeDiff, Nat.reduceLT, Int.reduceLT, Int.reduceLE, Int.reduceAdd, Int.reduceSub, Int.reduceMul, Int.reduceNeg, Int.reduceMod, Int.reduceDiv, Int.reducePow, Int.reduceToNat, okD_int, okD_bl, okD_lst, okD_tup, okD_non, okL_nil, okL_cons, okD_str, okL_int, eqD_int, eqD_bl, eqD_str, eqD_tup, eqD_lst, eqL_cons, eqL_nil, eqL_cn, eqL_nc, eqL_int, Bool.and_eq_true, Bool.or_eq_true, Bool.not_eq_true', Bool.and_false, Bool.false_and, Bool.or_false, Bool.false_or, Bool.or_true, Bool.true_or, Bool.and_true, Bool.true_and, Bool.and_self, wIsT2, wDct0, wLstOf, wRepF, wAsgH, DV.hN, hIx, hCons, hNil, hTup, wLM, gCnt, gIdx, gList, gSorted, wDctO, wPar3, wAppPop, wRaise0, wRaise1, wTry, wIsE, wAct, wFl, flD, gAnyX, gSumX, wCatF, wSSet, wLstR1, wLstR2, wTupR1, wFld])
  exact h
theorem sp_is_good_bad {d : D} (hf : Fig d) (hw : wordD s d = false) (h : Q (.bl false)) : T_is_good [dSch s m R, d] Q E := by
  rw [T_is_good_eq]; unfold wFn B_is_good
  simp only [wSeq, wAsg, wOwn, wF, wLc, wSkip, wBrk, wCnt, wRet, wRetF, wRetN, wDrop, wIfS, wPar, wFor, wWh, wV, wApp, wExt, wSetIx, wAug, wVal, wLook, wC, wOp, wTst, wChain, wAnd, wOr, wNot, wAndV, wOrV, wNotV, wIf, wNil, wCons, wTup, wLst, wCall, wCB, wIsT, wiR1, wiR2, wiSq, wiEn, wiZip, gN, gT1, gT2, gT3, gT4, gT5, gT6, gT7, wYes, gAdd, DV.gSub, gMul, gMod, gDiv, gPow, gLt, gLe, gGt, gGe, gCmp, gEq, gNe, gIs, gIsN, DV.isNon, gIn, gNotIn, gIx, gSlc, wSlc, wNoP, wPart, gLen, gAbs, gInt, gMin2, gMax2, gAll, gAny, gSum, gTuple, wNeg, wRev, wRevX, itemsOf, D.isTy, D.isHand, Sl.toD, big_0, big_1, big_2, big_3, big_4, big_5, big_6, big_7, big_8, big_9, big_10, big_11, big_12, draw_iff, own_ex, val_ex, wipeE, restE, Sl.keep, Option.getD_some, get_z, get_s, set_z, set_s, List.length_cons, List.length_nil, atI_0, atI_1, atI_2, atI_3, atI_4, ixN_5_0, ixN_5_1, ixN_5_2, ixN_5_3, ixN_5_4, D.bl.injEq, D.int.injEq, D.lst.injEq, D.tup.injEq, D.str.injEq, Sl.own.injEq, Sl.val.injEq, Option.some.injEq, exists_eq_left', exists_eq_left, exists_eq', exists_eq, or_true, true_or, or_false, false_or, CMul, CPow, natAbs_10, natAbs_2, Int.cast_ofNat_Int, Nat.reducePow, exists_and_left, exists_const, and_assoc, true_and, and_true, and_self, false_and, and_false, if_true, if_false, ite_true, ite_false, reduceCtorEq, decide_true, decide_false, decide_eq_true_eq, decide_eq_false_iff_not, Bool.not_true, Bool.not_false, Bool.false_eq_true, List.replicate_zero, List.replicate_succ, List.map_cons, List.map_nil, List.nil_append, List.cons_append, Nat.reduceSub, Nat.reduceAdd, Nat.reduceLeDiff, Nat.reduceLT, Int.reduceLT, Int.reduceLE, Int.reduceAdd, Int.reduceSub, Int.reduceMul, Int.reduceNeg, Int.reduceMod, Int.reduceDiv, Int.reducePow, Int.reduceToNat, okD_int, okD_bl, okD_lst, okD_tup, okD_non, okL_nil, okL_cons, okD_str, okL_int, eqD_int, eqD_bl, eqD_str, eqD_tup, eqD_lst, eqL_cons, eqL_nil, eqL_cn, eqL_nc, eqL_int, Bool.and_eq_true, Bool.or_eq_true, Bool.not_eq_true', Bool.and_false, Bool.false_and, Bool.or_false, Bool.false_or, Bool.or_true, Bool.true_or, Bool.and_true, Bool.true_and, Bool.and_self, wIsT2, wDct0, wLstOf, wRepF, wAsgH, DV.hN, hIx, hCons, hNil, hTup, wLM, gCnt, gIdx, gList, gSorted, wDctO, wPar3, wAppPop, wRaise0, wRaise1, wTry, wIsE, wAct, wFl, flD, gAnyX, gSumX, wCatF, wSSet, wLstR1, wLstR2, wTupR1, wFld, fld_signs, sp_is_sized hf.1 (fun xs e => (hf.2 xs e).1)]
  unfold wordD at hw
  cases hz : szD 0 24 d with
  | false =>
    (try simp only [wSeq, wAsg, wOwn, wF, wLc, wSkip, wBrk, wCnt, wRet, wRetF, wRetN, wDrop, wIfS, wPar, wFor, wWh, wV, wApp, wExt, wSetIx, wAug, wVal, wLook, wC, wOp, wTst, wChain, wAnd, wOr, wNot, wAndV, wOrV, wNotV, wIf, wNil, wCons, wTup, wLst, wCall, wCB, wIsT, wiR1, wiR2, wiSq, wiEn, wiZip, gN, gT1, gT2, gT3, gT4, gT5, gT6, gT7, wYes, gAdd, DV.gSub, gMul, gMod, gDiv, gPow, gLt, gLe, gGt, gGe, gCmp, gEq, gNe, gIs, gIsN, DV.isNon, gIn, gNotIn, gIx, gSlc, wSlc, wNoP, wPart, gLen, gAbs, gInt, gMin2, gMax2, gAll, gAny, gSum, gTuple, wNeg, wRev, wRevX, itemsOf, D.isTy, D.isHand, Sl.toD, big_0, big_1, big_2, big_3, big_4, big_5, big_6, big_7, big_8, big_9, big_10, big_11, big_12, draw_iff, own_ex, val_ex, wipeE, restE, Sl.keep, Option.getD_some, get_z, get_s, set_z, set_s, List.length_cons, List.length_nil, atI_0, atI_1, atI_2, atI_3, atI_4, ixN_5_0, ixN_5_1, ixN_5_2, ixN_5_3, ixN_5_4, D.bl.injEq, D.int.injEq, D.lst.injEq, D.tup.injEq, D.str.injEq, Sl.own.injEq, Sl.val.injEq, Option.some.injEq, exists_eq_left', exists_eq_left, exists_eq', exists_eq, or_true, true_or, or_false, false_or, CMul, CPow, natAbs_10, natAbs_2, Int.cast_ofNat_Int, Nat.reducePow, exists_and_left, exists_const, and_assoc, true_and, and_true, and_self, false_and, and_false, if_true, if_false, ite_true, ite_false, reduceCtorEq, decide_true, decide_false, decide_eq_true_eq, decide_eq_false_iff_not, Bool.not_true, Bool.not_false, Bool.false_eq_true, List.replicate_zero, List.replicate_succ, List.map_cons, List.map_nil, List.nil_append, List.cons_append, Nat.reduceSub, Nat.reduceAdd, Nat.reduceLeDiff, Nat.reduceLT, Int.reduceLT, Int.reduceLE, Int.reduceAdd, Int.reduceSub, Int.reduceMul, Int.reduceNeg, Int.reduceMod, Int.reduceDiv, Int.reducePow, Int.reduceToNat, okD_int, okD_bl, okD_lst, okD_tup, okD_non, okL_nil, okL_cons, okD_str, okL_int, eqD_int, eqD_bl, eqD_str, eqD_tup, eqD_lst, eqL_cons, eqL_nil, eqL_cn, eqL_nc, eqL_int, Bool.and_eq_true, Bool.or_eq_true, Bool.not_eq_true', Bool.and_false, Bool.false_and, Bool.or_false, Bool.false_or, Bool.or_true, Bool.true_or, Bool.and_true, Bool.true_and, Bool.and_self, wIsT2, wDct0, wLstOf, wRepF, wAsgH, DV.hN, hIx, hCons, hNil, hTup, wLM, gCnt, gIdx, gList, gSorted, wDctO, wPar3, wAppPop, wRaise0, wRaise1, wTry, wIsE, wAct, wFl, flD, gAnyX, gSumX, wCatF, wSSet, wLstR1, wLstR2, wTupR1, wFld])
    exact h
  | true =>
    rw [hz] at hw
    have hb : belowD s d = false := hw
    (try simp only [wSeq, wAsg, wOwn, wF, wLc, wSkip, wBrk, wCnt, wRet, wRetF, wRetN, wDrop, wIfS, wPar, wFor, wWh, wV, wApp, wExt, wSetIx, wAug, wVal, wLook, wC, wOp, wTst, wChain, wAnd, wOr, wNot, wAndV, wOrV, wNotV, wIf, wNil, wCons, wTup, wLst, wCall, wCB, wIsT, wiR1, wiR2, wiSq, wiEn, wiZip, gN, gT1, gT2, gT3, gT4, gT5, gT6, gT7, wYes, gAdd, DV.gSub, gMul, gMod, gDiv, gPow, gLt, gLe, gGt, gGe, gCmp, gEq, gNe, gIs, gIsN, DV.isNon, gIn, gNotIn, gIx, gSlc, wSlc, wNoP, wPart, gLen, gAbs, gInt, gMin2, gMax2, gAll, gAny, gSum, gTuple, wNeg, wRev, wRevX, itemsOf, D.isTy, D.isHand, Sl.toD, big_0, big_1, big_2, big_3, big_4, big_5, big_6, big_7, big_8, big_9, big_10, big_11, big_12, draw_iff, own_ex, val_ex, wipeE, restE, Sl.keep, Option.getD_some, get_z, get_s, set_z, set_s, List.length_cons, List.length_nil, atI_0, atI_1, atI_2, atI_3, atI_4, ixN_5_0, ixN_5_1, ixN_5_2, ixN_5_3, ixN_5_4, D.bl.injEq, D.int.injEq, D.lst.injEq, D.tup.injEq, D.str.injEq, Sl.own.injEq, Sl.val.injEq, Option.some.injEq, exists_eq_left', exists_eq_left, exists_eq', exists_eq, or_true, true_or, or_false, false_or, CMul, CPow, natAbs_10, natAbs_2, Int.cast_ofNat_Int, Nat.reducePow, exists_and_left, exists_const, and_assoc, true_and, and_true, and_self, false_and, and_false, if_true, if_false, ite_true, ite_false, reduceCtorEq, decide_true, decide_false, decide_eq_true_eq, decide_eq_false_iff_not, Bool.not_true, Bool.not_false, Bool.false_eq_true, List.replicate_zero, List.replicate_succ, List.map_cons, List.map_nil, List.nil_append, List.cons_append, Nat.reduceSub, Nat.reduceAdd, Nat.reduceLeDiff, Nat.reduceLT, Int.reduceLT, Int.reduceLE, Int.reduceAdd, Int.reduceSub, Int.reduceMul, Int.reduceNeg, Int.reduceMod, Int.reduceDiv, Int.reducePow, Int.reduceToNat, okD_int, okD_bl, okD_lst, okD_tup, okD_non, okL_nil, okL_cons, okD_str, okL_int, eqD_int, eqD_bl, eqD_str, eqD_tup, eqD_lst, eqL_cons, eqL_nil, eqL_cn, eqL_nc, eqL_int, Bool.and_eq_true, Bool.or_eq_true, Bool.not_eq_true', Bool.and_false, Bool.false_and, Bool.or_false, Bool.false_or, Bool.or_true, Bool.true_or, Bool.and_true, Bool.true_and, Bool.and_self, wIsT2, wDct0, wLstOf, wRepF, wAsgH, DV.hN, hIx, hCons, hNil, hTup, wLM, gCnt, gIdx, gList, gSorted, wDctO, wPar3, wAppPop, wRaise0, wRaise1, wTry, wIsE, wAct, wFl, flD, gAnyX, gSumX, wCatF, wSSet, wLstR1, wLstR2, wTupR1, wFld])
    refine sp_are_below hf ?_
    rw [hb]
    (try simp only [wSeq, wAsg, wOwn, wF, wLc, wSkip, wBrk, wCnt, wRet, wRetF, wRetN, wDrop, wIfS, wPar, wFor, wWh, wV, wApp, wExt, wSetIx, wAug, wVal, wLook, wC, wOp, wTst, wChain, wAnd, wOr, wNot, wAndV, wOrV, wNotV, wIf, wNil, wCons, wTup, wLst, wCall, wCB, wIsT, wiR1, wiR2, wiSq, wiEn, wiZip, gN, gT1, gT2, gT3, gT4, gT5, gT6, gT7, wYes, gAdd, DV.gSub, gMul, gMod, gDiv, gPow, gLt, gLe, gGt, gGe, gCmp, gEq, gNe, gIs, gIsN, DV.isNon, gIn, gNotIn, gIx, gSlc, wSlc, wNoP, wPart, gLen, gAbs, gInt, gMin2, gMax2, gAll, gAny, gSum, gTuple, wNeg, wRev, wRevX, itemsOf, D.isTy, D.isHand, Sl.toD, big_0, big_1, big_2, big_3, big_4, big_5, big_6, big_7, big_8, big_9, big_10, big_11, big_12, draw_iff, own_ex, val_ex, wipeE, restE, Sl.keep, Option.getD_some, get_z, get_s, set_z, set_s, List.length_cons, List.length_nil, atI_0, atI_1, atI_2, atI_3, atI_4, ixN_5_0, ixN_5_1, ixN_5_2, ixN_5_3, ixN_5_4, D.bl.injEq, D.int.injEq, D.lst.injEq, D.tup.injEq, D.str.injEq, Sl.own.injEq, Sl.val.injEq, Option.some.injEq, exists_eq_left', exists_eq_left, exists_eq', exists_eq, or_true, true_or, or_false, false_or, CMul, CPow, natAbs_10, natAbs_2, Int.cast_ofNat_Int, Nat.reducePow, exists_and_left, exists_const, and_assoc, true_and, and_true, and_self, false_and, and_false, if_true, if_false, ite_true, ite_false, reduceCtorEq, decide_true, decide_false, decide_eq_true_eq, decide_eq_false_iff_not, Bool.not_true, Bool.not_false, Bool.false_eq_true, List.replicate_zero, List.replicate_succ, List.map_cons, List.map_nil, List.nil_append, List.cons_append, Nat.reduceSub, Nat.reduceAdd, Nat.reduceLeDiff, Nat.reduceLT, Int.reduceLT, Int.reduceLE, Int.reduceAdd, Int.reduceSub, Int.reduceMul, Int.reduceNeg, Int.reduceMod, Int.reduceDiv, Int.reducePow, Int.reduceToNat, okD_int, okD_bl, okD_lst, okD_tup, okD_non, okL_nil, okL_cons, okD_str, okL_int, eqD_int, eqD_bl, eqD_str, eqD_tup, eqD_lst, eqL_cons, eqL_nil, eqL_cn, eqL_nc, eqL_int, Bool.and_eq_true, Bool.or_eq_true, Bool.not_eq_true', Bool.and_false, Bool.false_and, Bool.or_false, Bool.false_or, Bool.or_true, Bool.true_or, Bool.and_true, Bool.true_and, Bool.and_self, wIsT2, wDct0, wLstOf, wRepF, wAsgH, DV.hN, hIx, hCons, hNil, hTup, wLM, gCnt, gIdx, gList, gSorted, wDctO, wPar3, wAppPop, wRaise0, wRaise1, wTry, wIsE, wAct, wFl, flD, gAnyX, gSumX, wCatF, wSSet, wLstR1, wLstR2, wTupR1, wFld])
    exact h
/-- the states behind no sign, one, .. -/
def runs (R : List (List (List Int))) (w : List Int) : List Int := (List.range (w.length + 1)).map fun k => run R 0 0 (w.take k)
theorem take_map {w : List Int} {i : Nat} : DV.cutD (w.map D.int) none (some (i : Int)) = (w.take i).map D.int := by
  rw [cut_to (k := i) rfl, List.map_take]
def runF (R : List (List (List Int))) (w : List Int) : D → D
  | .int i => .int (run R 0 0 (w.take i.toNat))
  | d => d
theorem runs_D {w : List Int} : (rangeD 0 ((w.length : Int) + 1)).map (runF R w) = (runs R w).map D.int := by
  unfold rangeD runs
  rw [List.map_map, List.map_map, show ((w.length : Int) + 1 - 0).toNat = w.length + 1 by omega]
  refine List.map_congr_left fun k _ => ?_
  show D.int (run R 0 0 (w.take (0 + (k : Int)).toNat)) = _
  rw [Int.zero_add, Int.toNat_natCast]; rfl
theorem runs_last {w : List Int} : atI ((runs R w).map D.int) (-1) = some (.int (run R 0 0 w)) := by
  have hl : ((runs R w).map D.int).length = w.length + 1 := by unfold runs; simp
  have e : ixN ((runs R w).map D.int).length (-1) = some w.length := by
    rw [hl]
    unfold ixN
    rw [if_neg (by decide), if_pos (by omega)]
    congr 1
    omega
  unfold atI
  rw [e]
  show ((runs R w).map D.int)[w.length]? = _
  rw [List.getElem?_map]
  unfold runs
  rw [List.getElem?_map, List.getElem?_range (by omega)]
  show some (D.int (run R 0 0 (w.take w.length))) = _
  rw [List.take_length]
theorem sp_read_on (o : SchOk s m R) {w : List Int} (hw : Wd s w) (h : Q (.tup ((runs R w).map D.int))) : T_read_on [dSch s m R, .tup (w.map D.int)] Q E := by
  rw [T_read_on_eq]; unfold wFn B_read_on
  simp only [wSeq, wAsg, wOwn, wF, wLc, wSkip, wBrk, wCnt, wRet, wRetF, wRetN, wDrop, wIfS, wPar, wFor, wWh, wV, wApp, wExt, wSetIx, wAug, wVal, wLook, wC, wOp, wTst, wChain, wAnd, wOr, wNot, wAndV, wOrV, wNotV, wIf, wNil, wCons, wTup, wLst, wCall, wCB, wIsT, wiR1, wiR2, wiSq, wiEn, wiZip, gN, gT1, gT2, gT3, gT4, gT5, gT6, gT7, wYes, gAdd, DV.gSub, gMul, gMod, gDiv, gPow, gLt, gLe, gGt, gGe, gCmp, gEq, gNe, gIs, gIsN, DV.isNon, gIn, gNotIn, gIx, gSlc, wSlc, wNoP, wPart, gLen, gAbs, gInt, gMin2, gMax2, gAll, gAny, gSum, gTuple, wNeg, wRev, wRevX, itemsOf, D.isTy, D.isHand, Sl.toD, big_0, big_1, big_2, big_3, big_4, big_5, big_6, big_7, big_8, big_9, big_10, big_11, big_12, draw_iff, own_ex, val_ex, wipeE, restE, Sl.keep, Option.getD_some, get_z, get_s, set_z, set_s, List.length_cons, List.length_nil, atI_0, atI_1, atI_2, atI_3, atI_4, ixN_5_0, ixN_5_1, ixN_5_2, ixN_5_3, ixN_5_4, D.bl.injEq, D.int.injEq, D.lst.injEq, D.tup.injEq, D.str.injEq, Sl.own.injEq, Sl.val.injEq, Option.some.injEq, exists_eq_left', exists_eq_left, exists_eq', exists_eq, or_true, true_or, or_false, false_or, CMul, CPow, natAbs_10, natAbs_2, Int.cast_ofNat_Int, Nat.reducePow, exists_and_left, exists_const, and_assoc, true_and, and_true, and_self, false_and, and_false, if_true, if_false, ite_true, ite_false, reduceCtorEq, decide_true, decide_false, decide_eq_true_eq, decide_eq_false_iff_not, Bool.not_true, Bool.not_false, Bool.false_eq_true, List.replicate_zero, List.replicate_succ, List.map_cons, List.map_nil, List.nil_append, List.cons_append, Nat.reduceSub, Nat.reduceAdd, Nat.reduceLeDiff, Nat.reduceLT, Int.reduceLT, Int.reduceLE, Int.reduceAdd, Int.reduceSub, Int.reduceMul, Int.reduceNeg, Int.reduceMod, Int.reduceDiv, Int.reducePow, Int.reduceToNat, okD_int, okD_bl, okD_lst, okD_tup, okD_non, okL_nil, okL_cons, okD_str, okL_int, eqD_int, eqD_bl, eqD_str, eqD_tup, eqD_lst, eqL_cons, eqL_nil, eqL_cn, eqL_nc, eqL_int, Bool.and_eq_true, Bool.or_eq_true, Bool.not_eq_true', Bool.and_false, Bool.false_and, Bool.or_false, Bool.false_or, Bool.or_true, Bool.true_or, Bool.and_true, Bool.true_and, Bool.and_self, wIsT2, wDct0, wLstOf, wRepF, wAsgH, DV.hN, hIx, hCons, hNil, hTup, wLM, gCnt, gIdx, gList, gSorted, wDctO, wPar3, wAppPop, wRaise0, wRaise1, wTry, wIsE, wAct, wFl, flD, gAnyX, gSumX, wCatF, wSSet, wLstR1, wLstR2, wTupR1, wFld, fld_signs]
  refine sp_check_word hw.fig (fun _ => ?_) fun z => by rw [hw.word] at z; cases z
  unfold B_read_on_2
  have hl := hw.1
  simp only [wSeq, wAsg, wOwn, wF, wLc, wSkip, wBrk, wCnt, wRet, wRetF, wRetN, wDrop, wIfS, wPar, wFor, wWh, wV, wApp, wExt, wSetIx, wAug, wVal, wLook, wC, wOp, wTst, wChain, wAnd, wOr, wNot, wAndV, wOrV, wNotV, wIf, wNil, wCons, wTup, wLst, wCall, wCB, wIsT, wiR1, wiR2, wiSq, wiEn, wiZip, gN, gT1, gT2, gT3, gT4, gT5, gT6, gT7, wYes, gAdd, DV.gSub, gMul, gMod, gDiv, gPow, gLt, gLe, gGt, gGe, gCmp, gEq, gNe, gIs, gIsN, DV.isNon, gIn, gNotIn, gIx, gSlc, wSlc, wNoP, wPart, gLen, gAbs, gInt, gMin2, gMax2, gAll, gAny, gSum, gTuple, wNeg, wRev, wRevX, itemsOf, D.isTy, D.isHand, Sl.toD, big_0, big_1, big_2, big_3, big_4, big_5, big_6, big_7, big_8, big_9, big_10, big_11, big_12, draw_iff, own_ex, val_ex, wipeE, restE, Sl.keep, Option.getD_some, get_z, get_s, set_z, set_s, List.length_cons, List.length_nil, atI_0, atI_1, atI_2, atI_3, atI_4, ixN_5_0, ixN_5_1, ixN_5_2, ixN_5_3, ixN_5_4, D.bl.injEq, D.int.injEq, D.lst.injEq, D.tup.injEq, D.str.injEq, Sl.own.injEq, Sl.val.injEq, Option.some.injEq, exists_eq_left', exists_eq_left, exists_eq', exists_eq, or_true, true_or, or_false, false_or, CMul, CPow, natAbs_10, natAbs_2, Int.cast_ofNat_Int, Nat.reducePow, exists_and_left, exists_const, and_assoc, true_and, and_true, and_self, false_and, and_false, if_true, if_false, ite_true, ite_false, reduceCtorEq, decide_true, decide_false, decide_eq_true_eq, decide_eq_false_iff_not, Bool.not_true, Bool.not_false, Bool.false_eq_true, List.replicate_zero, List.replicate_succ, List.map_cons, List.map_nil, List.nil_append, List.cons_append, Nat.reduceSub, Nat.reduceAdd, Nat.reduceLeDiff, Nat.reduceLT, Int.reduceLT, Int.reduceLE, Int.reduceAdd, Int.reduceSub, Int.reduceMul, Int.reduceNeg, Int.reduceMod, Int.reduceDiv, Int.reducePow, Int.reduceToNat, okD_int, okD_bl, okD_lst, okD_tup, okD_non, okL_nil, okL_cons, okD_str, okL_int, eqD_int, eqD_bl, eqD_str, eqD_tup, eqD_lst, eqL_cons, eqL_nil, eqL_cn, eqL_nc, eqL_int, Bool.and_eq_true, Bool.or_eq_true, Bool.not_eq_true', Bool.and_false, Bool.false_and, Bool.or_false, Bool.false_or, Bool.or_true, Bool.true_or, Bool.and_true, Bool.true_and, Bool.and_self, wIsT2, wDct0, wLstOf, wRepF, wAsgH, DV.hN, hIx, hCons, hNil, hTup, wLM, gCnt, gIdx, gList, gSorted, wDctO, wPar3, wAppPop, wRaise0, wRaise1, wTry, wIsE, wAct, wFl, flD, gAnyX, gSumX, wCatF, wSSet, wLstR1, wLstR2, wTupR1, wFld, List.length_map, rangeD_len]
  refine ⟨by omega, by omega, by unfold big; omega, ?_⟩
  refine lc_map (runF R w) (fun x hx K' hk => ?_) ?_
  · obtain ⟨i, rfl, i1, i2⟩ := mem_range hx
    obtain ⟨n, rfl⟩ := Int.eq_ofNat_of_zero_le i1
    simp only [wSeq, wAsg, wOwn, wF, wLc, wSkip, wBrk, wCnt, wRet, wRetF, wRetN, wDrop, wIfS, wPar, wFor, wWh, wV, wApp, wExt, wSetIx, wAug, wVal, wLook, wC, wOp, wTst, wChain, wAnd, wOr, wNot, wAndV, wOrV, wNotV, wIf, wNil, wCons, wTup, wLst, wCall, wCB, wIsT, wiR1, wiR2, wiSq, wiEn, wiZip, gN, gT1, gT2, gT3, gT4, gT5, gT6, gT7, wYes, gAdd, DV.gSub, gMul, gMod, gDiv, gPow, gLt, gLe, gGt, gGe, gCmp, gEq, gNe, gIs, gIsN, DV.isNon, gIn, gNotIn, gIx, gSlc, wSlc, wNoP, wPart, gLen, gAbs, gInt, gMin2, gMax2, gAll, gAny, gSum, gTuple, wNeg, wRev, wRevX, itemsOf, D.isTy, D.isHand, Sl.toD, big_0, big_1, big_2, big_3, big_4, big_5, big_6, big_7, big_8, big_9, big_10, big_11, big_12, draw_iff, own_ex, val_ex, wipeE, restE, Sl.keep, Option.getD_some, get_z, get_s, set_z, set_s, List.length_cons, List.length_nil, atI_0, atI_1, atI_2, atI_3, atI_4, ixN_5_0, ixN_5_1, ixN_5_2, ixN_5_3, ixN_5_4, D.bl.injEq, D.int.injEq, D.lst.injEq, D.tup.injEq, D.str.injEq, Sl.own.injEq, Sl.val.injEq, Option.some.injEq, exists_eq_left', exists_eq_left, exists_eq', exists_eq, or_true, true_or, or_false, false_or, CMul, CPow, natAbs_10, natAbs_2, Int.cast_ofNat_Int, Nat.reducePow, exists_and_left, exists_const, and_assoc, true_and, and_true, and_self, false_and, and_false, if_true, if_false, ite_true, ite_false, reduceCtorEq, decide_true, decide_false, decide_eq_true_eq, decide_eq_false_iff_not, Bool.not_true, Bool.not_false, Bool.false_eq_true, List.replicate_zero, List.replicate_succ, List.map_cons, List.map_nil, List.nil_append, List.cons_append, Nat.reduceSub, Nat.reduceAdd, Nat.reduceLeDiff, Nat.reduceLT, Int.reduceLT, Int.reduceLE, Int.reduceAdd, Int.reduceSub, Int.reduceMul, Int.reduceNeg, Int.reduceMod, Int.reduceDiv, Int.reducePow, Int.reduceToNat, okD_int, okD_bl, okD_lst, okD_tup, okD_non, okL_nil, okL_cons, okD_str, okL_int, eqD_int, eqD_bl, eqD_str, eqD_tup, eqD_lst, eqL_cons, eqL_nil, eqL_cn, eqL_nc, eqL_int, Bool.and_eq_true, Bool.or_eq_true, Bool.not_eq_true', Bool.and_false, Bool.false_and, Bool.or_false, Bool.false_or, Bool.or_true, Bool.true_or, Bool.and_true, Bool.true_and, Bool.and_self, wIsT2, wDct0, wLstOf, wRepF, wAsgH, DV.hN, hIx, hCons, hNil, hTup, wLM, gCnt, gIdx, gList, gSorted, wDctO, wPar3, wAppPop, wRaise0, wRaise1, wTry, wIsE, wAct, wFl, flD, gAnyX, gSumX, wCatF, wSSet, wLstR1, wLstR2, wTupR1, wFld, take_map]
    refine sp_raw_state o (fun x hx => hw.2 x (List.mem_of_mem_take hx)) (by rw [List.length_take]; omega) ?_
    exact hk
  · rw [runs_D, List.nil_append]
    (try simp only [wSeq, wAsg, wOwn, wF, wLc, wSkip, wBrk, wCnt, wRet, wRetF, wRetN, wDrop, wIfS, wPar, wFor, wWh, wV, wApp, wExt, wSetIx, wAug, wVal, wLook, wC, wOp, wTst, wChain, wAnd, wOr, wNot, wAndV, wOrV, wNotV, wIf, wNil, wCons, wTup, wLst, wCall, wCB, wIsT, wiR1, wiR2, wiSq, wiEn, wiZip, gN, gT1, gT2, gT3, gT4, gT5, gT6, gT7, wYes, gAdd, DV.gSub, gMul, gMod, gDiv, gPow, gLt, gLe, gGt, gGe, gCmp, gEq, gNe, gIs, gIsN, DV.isNon, gIn, gNotIn, gIx, gSlc, wSlc, wNoP, wPart, gLen, gAbs, gInt, gMin2, gMax2, gAll, gAny, gSum, gTuple, wNeg, wRev, wRevX, itemsOf, D.isTy, D.isHand, Sl.toD, big_0, big_1, big_2, big_3, big_4, big_5, big_6, big_7, big_8, big_9, big_10, big_11, big_12, draw_iff, own_ex, val_ex, wipeE, restE, Sl.keep, Option.getD_some, get_z, get_s, set_z, set_s, List.length_cons, List.length_nil, atI_0, atI_1, atI_2, atI_3, atI_4, ixN_5_0, ixN_5_1, ixN_5_2, ixN_5_3, ixN_5_4, D.bl.injEq, D.int.injEq, D.lst.injEq, D.tup.injEq, D.str.injEq, Sl.own.injEq, Sl.val.injEq, Option.some.injEq, exists_eq_left', exists_eq_left, exists_eq', exists_eq, or_true, true_or, or_false, false_or, CMul, CPow, natAbs_10, natAbs_2, Int.cast_ofNat_Int, Nat.reducePow, exists_and_left, exists_const, and_assoc, true_and, and_true, and_self, false_and, and_false, if_true, if_false, ite_true, ite_false, reduceCtorEq, decide_true, decide_false, decide_eq_true_eq, decide_eq_false_iff_not, Bool.not_true, Bool.not_false, Bool.false_eq_true, List.replicate_zero, List.replicate_succ, List.map_cons, List.map_nil, List.nil_append, List.cons_append, Nat.reduceSub, Nat.reduceAdd, Nat.reduceLeDiff, Nat.reduceLT, Int.reduceLT, Int.reduceLE, Int.reduceAdd, Int.reduceSub, Int.reduceMul, Int.reduceNeg, Int.reduceMod, Int.reduceDiv, Int.reducePow, Int.reduceToNat, okD_int, okD_bl, okD_lst, okD_tup, okD_non, okL_nil, okL_cons, okD_str, okL_int, eqD_int, eqD_bl, eqD_str, eqD_tup, eqD_lst, eqL_cons, eqL_nil, eqL_cn, eqL_nc, eqL_int, Bool.and_eq_true, Bool.or_eq_true, Bool.not_eq_true', Bool.and_false, Bool.false_and, Bool.or_false, Bool.false_or, Bool.or_true, Bool.true_or, Bool.and_true, Bool.true_and, Bool.and_self, wIsT2, wDct0, wLstOf, wRepF, wAsgH, DV.hN, hIx, hCons, hNil, hTup, wLM, gCnt, gIdx, gList, gSorted, wDctO, wPar3, wAppPop, wRaise0, wRaise1, wTry, wIsE, wAct, wFl, flD, gAnyX, gSumX, wCatF, wSSet, wLstR1, wLstR2, wTupR1, wFld])
    exact fun _ => h
theorem read_on_bad {d : D} (h : Fig d) (hw : wordD s d = false) (he : E ("NoWord", [])) : T_read_on [dSch s m R, d] Q E := by
  rw [T_read_on_eq]; unfold wFn B_read_on
  simp only [wSeq, wAsg, wOwn, wF, wLc, wSkip, wBrk, wCnt, wRet, wRetF, wRetN, wDrop, wIfS, wPar, wFor, wWh, wV, wApp, wExt, wSetIx, wAug, wVal, wLook, wC, wOp, wTst, wChain, wAnd, wOr, wNot, wAndV, wOrV, wNotV, wIf, wNil, wCons, wTup, wLst, wCall, wCB, wIsT, wiR1, wiR2, wiSq, wiEn, wiZip, gN, gT1, gT2, gT3, gT4, gT5, gT6, gT7, wYes, gAdd, DV.gSub, gMul, gMod, gDiv, gPow, gLt, gLe, gGt, gGe, gCmp, gEq, gNe, gIs, gIsN, DV.isNon, gIn, gNotIn, gIx, gSlc, wSlc, wNoP, wPart, gLen, gAbs, gInt, gMin2, gMax2, gAll, gAny, gSum, gTuple, wNeg, wRev, wRevX, itemsOf, D.isTy, D.isHand, Sl.toD, big_0, big_1, big_2, big_3, big_4, big_5, big_6, big_7, big_8, big_9, big_10, big_11, big_12, draw_iff, own_ex, val_ex, wipeE, restE, Sl.keep, Option.getD_some, get_z, get_s, set_z, set_s, List.length_cons, List.length_nil, atI_0, atI_1, atI_2, atI_3, atI_4, ixN_5_0, ixN_5_1, ixN_5_2, ixN_5_3, ixN_5_4, D.bl.injEq, D.int.injEq, D.lst.injEq, D.tup.injEq, D.str.injEq, Sl.own.injEq, Sl.val.injEq, Option.some.injEq, exists_eq_left', exists_eq_left, exists_eq', exists_eq, or_true, true_or, or_false, false_or, CMul, CPow, natAbs_10, natAbs_2, Int.cast_ofNat_Int, Nat.reducePow, exists_and_left, exists_const, and_assoc, true_and, and_true, and_self, false_and, and_false, if_true, if_false, ite_true, ite_false, reduceCtorEq, decide_true, decide_false, decide_eq_true_eq, decide_eq_false_iff_not, Bool.not_true, Bool.not_false, Bool.false_eq_true, List.replicate_zero, List.replicate_succ, List.map_cons, List.map_nil, List.nil_append, List.cons_append, Nat.reduceSub, Nat.reduceAdd, Nat.reduceLeDiff, Nat.reduceLT, Int.reduceLT, Int.reduceLE, Int.reduceAdd, Int.reduceSub, Int.reduceMul, Int.reduceNeg, Int.reduceMod, Int.reduceDiv, Int.reducePow, Int.reduceToNat, okD_int, okD_bl, okD_lst, okD_tup, okD_non, okL_nil, okL_cons, okD_str, okL_int, eqD_int, eqD_bl, eqD_str, eqD_tup, eqD_lst, eqL_cons, eqL_nil, eqL_cn, eqL_nc, eqL_int, Bool.and_eq_true, Bool.or_eq_true, Bool.not_eq_true', Bool.and_false, Bool.false_and, Bool.or_false, Bool.false_or, Bool.or_true, Bool.true_or, Bool.and_true, Bool.true_and, Bool.and_self, wIsT2, wDct0, wLstOf, wRepF, wAsgH, DV.hN, hIx, hCons, hNil, hTup, wLM, gCnt, gIdx, gList, gSorted, wDctO, wPar3, wAppPop, wRaise0, wRaise1, wTry, wIsE, wAct, wFl, flD, gAnyX, gSumX, wCatF, wSSet, wLstR1, wLstR2, wTupR1, wFld, fld_signs]
  exact sp_check_word h (fun z => by rw [hw] at z; cases z) fun _ => he
end
end Law

set_option Elab.async false
set_option linter.all false
set_option maxRecDepth 100000
namespace Law
open PySem PySem.Spec PyProof.Rows L2 DV
section
variable {s m : Int} {Q : D → Prop} {E : Er → Prop}
/-- tables -/
def TabsOk (s m : Int) (R : List (List (List Int))) : Prop := ∀ t ∈ R, (t.length : Int) = m ∧ ∀ row ∈ t, (row.length : Int) = s ∧ ∀ x ∈ row, 0 ≤ x ∧ x < m
theorem sp_law_word (s1 : 2 ≤ s) (s2 : s ≤ 36) {n : Int} (n0 : 0 ≤ n) (n1 : n ≤ 24) (h : ∀ w : List Int, (w.length : Int) ≤ n → (∀ x ∈ w, 0 ≤ x ∧ x < s) → Q (.tup (w.map D.int))) : T__law_word [.hand, .int s, .int n] Q E := by
  rw [T__law_word_eq]; unfold wFn B__law_word
  (try simp only [wSeq, wAsg, wOwn, wF, wLc, wSkip, wBrk, wCnt, wRet, wRetF, wRetN, wDrop, wIfS, wPar, wFor, wWh, wV, wApp, wExt, wSetIx, wAug, wVal, wLook, wC, wOp, wTst, wChain, wAnd, wOr, wNot, wAndV, wOrV, wNotV, wIf, wNil, wCons, wTup, wLst, wCall, wCB, wIsT, wiR1, wiR2, wiSq, wiEn, wiZip, gN, gT1, gT2, gT3, gT4, gT5, gT6, gT7, wYes, gAdd, DV.gSub, gMul, gMod, gDiv, gPow, gLt, gLe, gGt, gGe, gCmp, gEq, gNe, gIs, gIsN, DV.isNon, gIn, gNotIn, gIx, gSlc, wSlc, wNoP, wPart, gLen, gAbs, gInt, gMin2, gMax2, gAll, gAny, gSum, gTuple, wNeg, wRev, wRevX, itemsOf, D.isTy, D.isHand, Sl.toD, big_0, big_1, big_2, big_3, big_4, big_5, big_6, big_7, big_8, big_9, big_10, big_11, big_12, draw_iff, own_ex, val_ex, wipeE, restE, Sl.keep, Option.getD_some, get_z, get_s, set_z, set_s, List.length_cons, List.length_nil, atI_0, atI_1, atI_2, atI_3, atI_4, ixN_5_0, ixN_5_1, ixN_5_2, ixN_5_3, ixN_5_4, D.bl.injEq, D.int.injEq, D.lst.injEq, D.tup.injEq, D.str.injEq, Sl.own.injEq, Sl.val.injEq, Option.some.injEq, exists_eq_left', exists_eq_left, exists_eq', exists_eq, or_true, true_or, or_false, false_or, CMul, CPow, natAbs_10, natAbs_2, Int.cast_ofNat_Int, Nat.reducePow, exists_and_left, exists_const, and_assoc, true_and, and_true, and_self, false_and, and_false, if_true, if_false, ite_true, ite_false, reduceCtorEq, decide_true, decide_false, decide_eq_true_eq, decide_eq_false_iff_not, Bool.not_true, Bool.not_false, Bool.false_eq_true, List.replicate_zero, List.replicate_succ, List.map_cons, List.map_nil, List.nil_append, List.cons_append, Nat.reduceSub, Nat.reduceAdd, Nat.reduceLeDiff, Nat.reduceLT, Int.reduceLT, Int.reduceLE, Int.reduceAdd, Int.reduceSub, Int.reduceMul, Int.reduceNeg, Int.reduceMod, Int.reduceDiv, Int.reducePow, Int.reduceToNat, okD_int, okD_bl, okD_lst, okD_tup, okD_non, okL_nil, okL_cons, okD_str, okL_int, eqD_int, eqD_bl, eqD_str, eqD_tup, eqD_lst, eqL_cons, eqL_nil, eqL_cn, eqL_nc, eqL_int, Bool.and_eq_true, Bool.or_eq_true, Bool.not_eq_true', Bool.and_false, Bool.false_and, Bool.or_false, Bool.false_or, Bool.or_true, Bool.true_or, Bool.and_true, Bool.true_and, Bool.and_self, wIsT2, wDct0, wLstOf, wRepF, wAsgH, DV.hN, hIx, hCons, hNil, hTup, wLM, gCnt, gIdx, gList, gSorted, wDctO, wPar3, wAppPop, wRaise0, wRaise1, wTry, wIsE, wAct, wFl, flD, gAnyX, gSumX, wCatF, wSSet, wLstR1, wLstR2, wTupR1, wFld])
  intro _
  refine sp_any (by simp) (by simp) fun x hx => ?_
  obtain ⟨u, rfl, u1, u2⟩ : ∃ u : Int, x = .int u ∧ 1 ≤ u ∧ u ≤ s := by
    simp only [List.mem_cons, List.not_mem_nil, or_false] at hx
    rcases hx with rfl | rfl
    · exact ⟨_, rfl, by split <;> omega, by split <;> omega⟩
    · exact ⟨_, rfl, by omega, by omega⟩
  unfold B__law_word_2
  (try simp only [wSeq, wAsg, wOwn, wF, wLc, wSkip, wBrk, wCnt, wRet, wRetF, wRetN, wDrop, wIfS, wPar, wFor, wWh, wV, wApp, wExt, wSetIx, wAug, wVal, wLook, wC, wOp, wTst, wChain, wAnd, wOr, wNot, wAndV, wOrV, wNotV, wIf, wNil, wCons, wTup, wLst, wCall, wCB, wIsT, wiR1, wiR2, wiSq, wiEn, wiZip, gN, gT1, gT2, gT3, gT4, gT5, gT6, gT7, wYes, gAdd, DV.gSub, gMul, gMod, gDiv, gPow, gLt, gLe, gGt, gGe, gCmp, gEq, gNe, gIs, gIsN, DV.isNon, gIn, gNotIn, gIx, gSlc, wSlc, wNoP, wPart, gLen, gAbs, gInt, gMin2, gMax2, gAll, gAny, gSum, gTuple, wNeg, wRev, wRevX, itemsOf, D.isTy, D.isHand, Sl.toD, big_0, big_1, big_2, big_3, big_4, big_5, big_6, big_7, big_8, big_9, big_10, big_11, big_12, draw_iff, own_ex, val_ex, wipeE, restE, Sl.keep, Option.getD_some, get_z, get_s, set_z, set_s, List.length_cons, List.length_nil, atI_0, atI_1, atI_2, atI_3, atI_4, ixN_5_0, ixN_5_1, ixN_5_2, ixN_5_3, ixN_5_4, D.bl.injEq, D.int.injEq, D.lst.injEq, D.tup.injEq, D.str.injEq, Sl.own.injEq, Sl.val.injEq, Option.some.injEq, exists_eq_left', exists_eq_left, exists_eq', exists_eq, or_true, true_or, or_false, false_or, CMul, CPow, natAbs_10, natAbs_2, Int.cast_ofNat_Int, Nat.reducePow, exists_and_left, exists_const, and_assoc, true_and, and_true, and_self, false_and, and_false, if_true, if_false, ite_true, ite_false, reduceCtorEq, decide_true, decide_false, decide_eq_true_eq, decide_eq_false_iff_not, Bool.not_true, Bool.not_false, Bool.false_eq_true, List.replicate_zero, List.replicate_succ, List.map_cons, List.map_nil, List.nil_append, List.cons_append, Nat.reduceSub, Nat.reduceAdd, Nat.reduceLeDiff, Nat.reduceLT, Int.reduceLT, Int.reduceLE, Int.reduceAdd, Int.reduceSub, Int.reduceMul, Int.reduceNeg, Int.reduceMod, Int.reduceDiv, Int.reducePow, Int.reduceToNat, okD_int, okD_bl, okD_lst, okD_tup, okD_non, okL_nil, okL_cons, okD_str, okL_int, eqD_int, eqD_bl, eqD_str, eqD_tup, eqD_lst, eqL_cons, eqL_nil, eqL_cn, eqL_nc, eqL_int, Bool.and_eq_true, Bool.or_eq_true, Bool.not_eq_true', Bool.and_false, Bool.false_and, Bool.or_false, Bool.false_or, Bool.or_true, Bool.true_or, Bool.and_true, Bool.true_and, Bool.and_self, wIsT2, wDct0, wLstOf, wRepF, wAsgH, DV.hN, hIx, hCons, hNil, hTup, wLM, gCnt, gIdx, gList, gSorted, wDctO, wPar3, wAppPop, wRaise0, wRaise1, wTry, wIsE, wAct, wFl, flD, gAnyX, gSumX, wCatF, wSSet, wLstR1, wLstR2, wTupR1, wFld])
  refine ⟨by omega, by omega, fun d d1 d2 => ⟨by omega, by omega, by rw [rangeD_len]; unfold big; omega, ?_⟩⟩
  refine lc_ints (fun x => 0 ≤ x ∧ x < s) (fun x hx K' hk => ?_) fun xs hl hx => ?_
  · obtain ⟨i, rfl, i1, i2⟩ := mem_range hx
    (try simp only [wSeq, wAsg, wOwn, wF, wLc, wSkip, wBrk, wCnt, wRet, wRetF, wRetN, wDrop, wIfS, wPar, wFor, wWh, wV, wApp, wExt, wSetIx, wAug, wVal, wLook, wC, wOp, wTst, wChain, wAnd, wOr, wNot, wAndV, wOrV, wNotV, wIf, wNil, wCons, wTup, wLst, wCall, wCB, wIsT, wiR1, wiR2, wiSq, wiEn, wiZip, gN, gT1, gT2, gT3, gT4, gT5, gT6, gT7, wYes, gAdd, DV.gSub, gMul, gMod, gDiv, gPow, gLt, gLe, gGt, gGe, gCmp, gEq, gNe, gIs, gIsN, DV.isNon, gIn, gNotIn, gIx, gSlc, wSlc, wNoP, wPart, gLen, gAbs, gInt, gMin2, gMax2, gAll, gAny, gSum, gTuple, wNeg, wRev, wRevX, itemsOf, D.isTy, D.isHand, Sl.toD, big_0, big_1, big_2, big_3, big_4, big_5, big_6, big_7, big_8, big_9, big_10, big_11, big_12, draw_iff, own_ex, val_ex, wipeE, restE, Sl.keep, Option.getD_some, get_z, get_s, set_z, set_s, List.length_cons, List.length_nil, atI_0, atI_1, atI_2, atI_3, atI_4, ixN_5_0, ixN_5_1, ixN_5_2, ixN_5_3, ixN_5_4, D.bl.injEq, D.int.injEq, D.lst.injEq, D.tup.injEq, D.str.injEq, Sl.own.injEq, Sl.val.injEq, Option.some.injEq, exists_eq_left', exists_eq_left, exists_eq', exists_eq, or_true, true_or, or_false, false_or, CMul, CPow, natAbs_10, natAbs_2, Int.cast_ofNat_Int, Nat.reducePow, exists_and_left, exists_const, and_assoc, true_and, and_true, and_self, false_and, and_false, if_true, if_false, ite_true, ite_false, reduceCtorEq, decide_true, decide_false, decide_eq_true_eq, decide_eq_false_iff_not, Bool.not_true, Bool.not_false, Bool.false_eq_true, List.replicate_zero, List.replicate_succ, List.map_cons, List.map_nil, List.nil_append, List.cons_append, Nat.reduceSub, Nat.reduceAdd, Nat.reduceLeDiff, Nat.reduceLT, Int.reduceLT, Int.reduceLE, Int.reduceAdd, Int.reduceSub, Int.reduceMul, Int.reduceNeg, Int.reduceMod, Int.reduceDiv, Int.reducePow, Int.reduceToNat, okD_int, okD_bl, okD_lst, okD_tup, okD_non, okL_nil, okL_cons, okD_str, okL_int, eqD_int, eqD_bl, eqD_str, eqD_tup, eqD_lst, eqL_cons, eqL_nil, eqL_cn, eqL_nc, eqL_int, Bool.and_eq_true, Bool.or_eq_true, Bool.not_eq_true', Bool.and_false, Bool.false_and, Bool.or_false, Bool.false_or, Bool.or_true, Bool.true_or, Bool.and_true, Bool.true_and, Bool.and_self, wIsT2, wDct0, wLstOf, wRepF, wAsgH, DV.hN, hIx, hCons, hNil, hTup, wLM, gCnt, gIdx, gList, gSorted, wDctO, wPar3, wAppPop, wRaise0, wRaise1, wTry, wIsE, wAct, wFl, flD, gAnyX, gSumX, wCatF, wSSet, wLstR1, wLstR2, wTupR1, wFld])
    exact ⟨by omega, by omega, fun c c1 c2 => hk _ ⟨c1, by omega⟩⟩
  · rw [rangeD_len] at hl
    (try simp only [wSeq, wAsg, wOwn, wF, wLc, wSkip, wBrk, wCnt, wRet, wRetF, wRetN, wDrop, wIfS, wPar, wFor, wWh, wV, wApp, wExt, wSetIx, wAug, wVal, wLook, wC, wOp, wTst, wChain, wAnd, wOr, wNot, wAndV, wOrV, wNotV, wIf, wNil, wCons, wTup, wLst, wCall, wCB, wIsT, wiR1, wiR2, wiSq, wiEn, wiZip, gN, gT1, gT2, gT3, gT4, gT5, gT6, gT7, wYes, gAdd, DV.gSub, gMul, gMod, gDiv, gPow, gLt, gLe, gGt, gGe, gCmp, gEq, gNe, gIs, gIsN, DV.isNon, gIn, gNotIn, gIx, gSlc, wSlc, wNoP, wPart, gLen, gAbs, gInt, gMin2, gMax2, gAll, gAny, gSum, gTuple, wNeg, wRev, wRevX, itemsOf, D.isTy, D.isHand, Sl.toD, big_0, big_1, big_2, big_3, big_4, big_5, big_6, big_7, big_8, big_9, big_10, big_11, big_12, draw_iff, own_ex, val_ex, wipeE, restE, Sl.keep, Option.getD_some, get_z, get_s, set_z, set_s, List.length_cons, List.length_nil, atI_0, atI_1, atI_2, atI_3, atI_4, ixN_5_0, ixN_5_1, ixN_5_2, ixN_5_3, ixN_5_4, D.bl.injEq, D.int.injEq, D.lst.injEq, D.tup.injEq, D.str.injEq, Sl.own.injEq, Sl.val.injEq, Option.some.injEq, exists_eq_left', exists_eq_left, exists_eq', exists_eq, or_true, true_or, or_false, false_or, CMul, CPow, natAbs_10, natAbs_2, Int.cast_ofNat_Int, Nat.reducePow, exists_and_left, exists_const, and_assoc, true_and, and_true, and_self, false_and, and_false, if_true, if_false, ite_true, ite_false, reduceCtorEq, decide_true, decide_false, decide_eq_true_eq, decide_eq_false_iff_not, Bool.not_true, Bool.not_false, Bool.false_eq_true, List.replicate_zero, List.replicate_succ, List.map_cons, List.map_nil, List.nil_append, List.cons_append, Nat.reduceSub, Nat.reduceAdd, Nat.reduceLeDiff, Nat.reduceLT, Int.reduceLT, Int.reduceLE, Int.reduceAdd, Int.reduceSub, Int.reduceMul, Int.reduceNeg, Int.reduceMod, Int.reduceDiv, Int.reducePow, Int.reduceToNat, okD_int, okD_bl, okD_lst, okD_tup, okD_non, okL_nil, okL_cons, okD_str, okL_int, eqD_int, eqD_bl, eqD_str, eqD_tup, eqD_lst, eqL_cons, eqL_nil, eqL_cn, eqL_nc, eqL_int, Bool.and_eq_true, Bool.or_eq_true, Bool.not_eq_true', Bool.and_false, Bool.false_and, Bool.or_false, Bool.false_or, Bool.or_true, Bool.true_or, Bool.and_true, Bool.true_and, Bool.and_self, wIsT2, wDct0, wLstOf, wRepF, wAsgH, DV.hN, hIx, hCons, hNil, hTup, wLM, gCnt, gIdx, gList, gSorted, wDctO, wPar3, wAppPop, wRaise0, wRaise1, wTry, wIsE, wAct, wFl, flD, gAnyX, gSumX, wCatF, wSSet, wLstR1, wLstR2, wTupR1, wFld])
    have go := h xs (by omega) hx
    exact fun _ => go
theorem sp_law_rounds (s1 : 2 ≤ s) (s2 : s ≤ 36) (m1 : 1 ≤ m) (m2 : m ≤ 200) (h : ∀ R : List (List (List Int)), 1 ≤ R.length → R.length ≤ 3 → TabsOk s m R → Q (dR R)) : T__law_rounds [.hand, .int s, .int m] Q E := by
  rw [T__law_rounds_eq]; unfold wFn B__law_rounds
  (try simp only [wSeq, wAsg, wOwn, wF, wLc, wSkip, wBrk, wCnt, wRet, wRetF, wRetN, wDrop, wIfS, wPar, wFor, wWh, wV, wApp, wExt, wSetIx, wAug, wVal, wLook, wC, wOp, wTst, wChain, wAnd, wOr, wNot, wAndV, wOrV, wNotV, wIf, wNil, wCons, wTup, wLst, wCall, wCB, wIsT, wiR1, wiR2, wiSq, wiEn, wiZip, gN, gT1, gT2, gT3, gT4, gT5, gT6, gT7, wYes, gAdd, DV.gSub, gMul, gMod, gDiv, gPow, gLt, gLe, gGt, gGe, gCmp, gEq, gNe, gIs, gIsN, DV.isNon, gIn, gNotIn, gIx, gSlc, wSlc, wNoP, wPart, gLen, gAbs, gInt, gMin2, gMax2, gAll, gAny, gSum, gTuple, wNeg, wRev, wRevX, itemsOf, D.isTy, D.isHand, Sl.toD, big_0, big_1, big_2, big_3, big_4, big_5, big_6, big_7, big_8, big_9, big_10, big_11, big_12, draw_iff, own_ex, val_ex, wipeE, restE, Sl.keep, Option.getD_some, get_z, get_s, set_z, set_s, List.length_cons, List.length_nil, atI_0, atI_1, atI_2, atI_3, atI_4, ixN_5_0, ixN_5_1, ixN_5_2, ixN_5_3, ixN_5_4, D.bl.injEq, D.int.injEq, D.lst.injEq, D.tup.injEq, D.str.injEq, Sl.own.injEq, Sl.val.injEq, Option.some.injEq, exists_eq_left', exists_eq_left, exists_eq', exists_eq, or_true, true_or, or_false, false_or, CMul, CPow, natAbs_10, natAbs_2, Int.cast_ofNat_Int, Nat.reducePow, exists_and_left, exists_const, and_assoc, true_and, and_true, and_self, false_and, and_false, if_true, if_false, ite_true, ite_false, reduceCtorEq, decide_true, decide_false, decide_eq_true_eq, decide_eq_false_iff_not, Bool.not_true, Bool.not_false, Bool.false_eq_true, List.replicate_zero, List.replicate_succ, List.map_cons, List.map_nil, List.nil_append, List.cons_append, Nat.reduceSub, Nat.reduceAdd, Nat.reduceLeDiff, Nat.reduceLT, Int.reduceLT, Int.reduceLE, Int.reduceAdd, Int.reduceSub, Int.reduceMul, Int.reduceNeg, Int.reduceMod, Int.reduceDiv, Int.reducePow, Int.reduceToNat, okD_int, okD_bl, okD_lst, okD_tup, okD_non, okL_nil, okL_cons, okD_str, okL_int, eqD_int, eqD_bl, eqD_str, eqD_tup, eqD_lst, eqL_cons, eqL_nil, eqL_cn, eqL_nc, eqL_int, Bool.and_eq_true, Bool.or_eq_true, Bool.not_eq_true', Bool.and_false, Bool.false_and, Bool.or_false, Bool.false_or, Bool.or_true, Bool.true_or, Bool.and_true, Bool.true_and, Bool.and_self, wIsT2, wDct0, wLstOf, wRepF, wAsgH, DV.hN, hIx, hCons, hNil, hTup, wLM, gCnt, gIdx, gList, gSorted, wDctO, wPar3, wAppPop, wRaise0, wRaise1, wTry, wIsE, wAct, wFl, flD, gAnyX, gSumX, wCatF, wSSet, wLstR1, wLstR2, wTupR1, wFld])
  intro a
  unfold B__law_rounds_2
  (try simp only [wSeq, wAsg, wOwn, wF, wLc, wSkip, wBrk, wCnt, wRet, wRetF, wRetN, wDrop, wIfS, wPar, wFor, wWh, wV, wApp, wExt, wSetIx, wAug, wVal, wLook, wC, wOp, wTst, wChain, wAnd, wOr, wNot, wAndV, wOrV, wNotV, wIf, wNil, wCons, wTup, wLst, wCall, wCB, wIsT, wiR1, wiR2, wiSq, wiEn, wiZip, gN, gT1, gT2, gT3, gT4, gT5, gT6, gT7, wYes, gAdd, DV.gSub, gMul, gMod, gDiv, gPow, gLt, gLe, gGt, gGe, gCmp, gEq, gNe, gIs, gIsN, DV.isNon, gIn, gNotIn, gIx, gSlc, wSlc, wNoP, wPart, gLen, gAbs, gInt, gMin2, gMax2, gAll, gAny, gSum, gTuple, wNeg, wRev, wRevX, itemsOf, D.isTy, D.isHand, Sl.toD, big_0, big_1, big_2, big_3, big_4, big_5, big_6, big_7, big_8, big_9, big_10, big_11, big_12, draw_iff, own_ex, val_ex, wipeE, restE, Sl.keep, Option.getD_some, get_z, get_s, set_z, set_s, List.length_cons, List.length_nil, atI_0, atI_1, atI_2, atI_3, atI_4, ixN_5_0, ixN_5_1, ixN_5_2, ixN_5_3, ixN_5_4, D.bl.injEq, D.int.injEq, D.lst.injEq, D.tup.injEq, D.str.injEq, Sl.own.injEq, Sl.val.injEq, Option.some.injEq, exists_eq_left', exists_eq_left, exists_eq', exists_eq, or_true, true_or, or_false, false_or, CMul, CPow, natAbs_10, natAbs_2, Int.cast_ofNat_Int, Nat.reducePow, exists_and_left, exists_const, and_assoc, true_and, and_true, and_self, false_and, and_false, if_true, if_false, ite_true, ite_false, reduceCtorEq, decide_true, decide_false, decide_eq_true_eq, decide_eq_false_iff_not, Bool.not_true, Bool.not_false, Bool.false_eq_true, List.replicate_zero, List.replicate_succ, List.map_cons, List.map_nil, List.nil_append, List.cons_append, Nat.reduceSub, Nat.reduceAdd, Nat.reduceLeDiff, Nat.reduceLT, Int.reduceLT, Int.reduceLE, Int.reduceAdd, Int.reduceSub, Int.reduceMul, Int.reduceNeg, Int.reduceMod, Int.reduceDiv, Int.reducePow, Int.reduceToNat, okD_int, okD_bl, okD_lst, okD_tup, okD_non, okL_nil, okL_cons, okD_str, okL_int, eqD_int, eqD_bl, eqD_str, eqD_tup, eqD_lst, eqL_cons, eqL_nil, eqL_cn, eqL_nc, eqL_int, Bool.and_eq_true, Bool.or_eq_true, Bool.not_eq_true', Bool.and_false, Bool.false_and, Bool.or_false, Bool.false_or, Bool.or_true, Bool.true_or, Bool.and_true, Bool.true_and, Bool.and_self, wIsT2, wDct0, wLstOf, wRepF, wAsgH, DV.hN, hIx, hCons, hNil, hTup, wLM, gCnt, gIdx, gList, gSorted, wDctO, wPar3, wAppPop, wRaise0, wRaise1, wTry, wIsE, wAct, wFl, flD, gAnyX, gSumX, wCatF, wSSet, wLstR1, wLstR2, wTupR1, wFld])
  intro d d1 d2
  refine ⟨by omega, by omega, ?_⟩
  refine DV.for_range (lo := 0) (hi := 1 + d) (fun k env => ∃ (R : List (List (List Int))) (s4 s5 s6 : Sl), R.length = k ∧ TabsOk s m R ∧ env = [.val .hand, .val (.int s), .val (.int m), .own a (R.map dTab), s4, s5, s6, .no]) ⟨[], _, _, _, rfl, (fun t ht => by cases ht), rfl⟩ (fun env hI => ?_) (fun k env hk hI nx hn => ?_)
  · obtain ⟨R, s4, s5, s6, hl, hR, rfl⟩ := hI
    unfold B__law_rounds_7
    (try simp only [wSeq, wAsg, wOwn, wF, wLc, wSkip, wBrk, wCnt, wRet, wRetF, wRetN, wDrop, wIfS, wPar, wFor, wWh, wV, wApp, wExt, wSetIx, wAug, wVal, wLook, wC, wOp, wTst, wChain, wAnd, wOr, wNot, wAndV, wOrV, wNotV, wIf, wNil, wCons, wTup, wLst, wCall, wCB, wIsT, wiR1, wiR2, wiSq, wiEn, wiZip, gN, gT1, gT2, gT3, gT4, gT5, gT6, gT7, wYes, gAdd, DV.gSub, gMul, gMod, gDiv, gPow, gLt, gLe, gGt, gGe, gCmp, gEq, gNe, gIs, gIsN, DV.isNon, gIn, gNotIn, gIx, gSlc, wSlc, wNoP, wPart, gLen, gAbs, gInt, gMin2, gMax2, gAll, gAny, gSum, gTuple, wNeg, wRev, wRevX, itemsOf, D.isTy, D.isHand, Sl.toD, big_0, big_1, big_2, big_3, big_4, big_5, big_6, big_7, big_8, big_9, big_10, big_11, big_12, draw_iff, own_ex, val_ex, wipeE, restE, Sl.keep, Option.getD_some, get_z, get_s, set_z, set_s, List.length_cons, List.length_nil, atI_0, atI_1, atI_2, atI_3, atI_4, ixN_5_0, ixN_5_1, ixN_5_2, ixN_5_3, ixN_5_4, D.bl.injEq, D.int.injEq, D.lst.injEq, D.tup.injEq, D.str.injEq, Sl.own.injEq, Sl.val.injEq, Option.some.injEq, exists_eq_left', exists_eq_left, exists_eq', exists_eq, or_true, true_or, or_false, false_or, CMul, CPow, natAbs_10, natAbs_2, Int.cast_ofNat_Int, Nat.reducePow, exists_and_left, exists_const, and_assoc, true_and, and_true, and_self, false_and, and_false, if_true, if_false, ite_true, ite_false, reduceCtorEq, decide_true, decide_false, decide_eq_true_eq, decide_eq_false_iff_not, Bool.not_true, Bool.not_false, Bool.false_eq_true, List.replicate_zero, List.replicate_succ, List.map_cons, List.map_nil, List.nil_append, List.cons_append, Nat.reduceSub, Nat.reduceAdd, Nat.reduceLeDiff, Nat.reduceLT, Int.reduceLT, Int.reduceLE, Int.reduceAdd, Int.reduceSub, Int.reduceMul, Int.reduceNeg, Int.reduceMod, Int.reduceDiv, Int.reducePow, Int.reduceToNat, okD_int, okD_bl, okD_lst, okD_tup, okD_non, okL_nil, okL_cons, okD_str, okL_int, eqD_int, eqD_bl, eqD_str, eqD_tup, eqD_lst, eqL_cons, eqL_nil, eqL_cn, eqL_nc, eqL_int, Bool.and_eq_true, Bool.or_eq_true, Bool.not_eq_true', Bool.and_false, Bool.false_and, Bool.or_false, Bool.false_or, Bool.or_true, Bool.true_or, Bool.and_true, Bool.true_and, Bool.and_self, wIsT2, wDct0, wLstOf, wRepF, wAsgH, DV.hN, hIx, hCons, hNil, hTup, wLM, gCnt, gIdx, gList, gSorted, wDctO, wPar3, wAppPop, wRaise0, wRaise1, wTry, wIsE, wAct, wFl, flD, gAnyX, gSumX, wCatF, wSSet, wLstR1, wLstR2, wTupR1, wFld])
    exact h R (by omega) (by omega) hR
  · obtain ⟨R, s4, s5, s6, hl, hR, rfl⟩ := hI
    have hG : (R.map dTab).length ≤ 10 := by rw [List.length_map]; omega
    have fin : ∀ (t : List (List Int)) (s5 s6 : Sl), ((t.length : Int) = m ∧ ∀ row ∈ t, (row.length : Int) = s ∧ ∀ x ∈ row, 0 ≤ x ∧ x < m) → ∀ e : DV.Env, e = [.val .hand, .val (.int s), .val (.int m), .own a (R.map dTab ++ [dTab t]), .val (.int (0 + (k : Int))), s5, s6, .no] → nx e := fun t s5 s6 ht e he => by
      refine hn e ⟨R ++ [t], .val (.int (0 + (k : Int))), s5, s6, by simp [hl], fun u hu => ?_, ?_⟩
      · rcases List.mem_append.mp hu with hu | hu
        · exact hR u hu
        · rw [List.mem_singleton.mp hu]; exact ht
      · rw [he, List.map_append]; rfl
    generalize R.map dTab = G at *
    unfold B__law_rounds_3
    (try simp only [wSeq, wAsg, wOwn, wF, wLc, wSkip, wBrk, wCnt, wRet, wRetF, wRetN, wDrop, wIfS, wPar, wFor, wWh, wV, wApp, wExt, wSetIx, wAug, wVal, wLook, wC, wOp, wTst, wChain, wAnd, wOr, wNot, wAndV, wOrV, wNotV, wIf, wNil, wCons, wTup, wLst, wCall, wCB, wIsT, wiR1, wiR2, wiSq, wiEn, wiZip, gN, gT1, gT2, gT3, gT4, gT5, gT6, gT7, wYes, gAdd, DV.gSub, gMul, gMod, gDiv, gPow, gLt, gLe, gGt, gGe, gCmp, gEq, gNe, gIs, gIsN, DV.isNon, gIn, gNotIn, gIx, gSlc, wSlc, wNoP, wPart, gLen, gAbs, gInt, gMin2, gMax2, gAll, gAny, gSum, gTuple, wNeg, wRev, wRevX, itemsOf, D.isTy, D.isHand, Sl.toD, big_0, big_1, big_2, big_3, big_4, big_5, big_6, big_7, big_8, big_9, big_10, big_11, big_12, draw_iff, own_ex, val_ex, wipeE, restE, Sl.keep, Option.getD_some, get_z, get_s, set_z, set_s, List.length_cons, List.length_nil, atI_0, atI_1, atI_2, atI_3, atI_4, ixN_5_0, ixN_5_1, ixN_5_2, ixN_5_3, ixN_5_4, D.bl.injEq, D.int.injEq, D.lst.injEq, D.tup.injEq, D.str.injEq, Sl.own.injEq, Sl.val.injEq, Option.some.injEq, exists_eq_left', exists_eq_left, exists_eq', exists_eq, or_true, true_or, or_false, false_or, CMul, CPow, natAbs_10, natAbs_2, Int.cast_ofNat_Int, Nat.reducePow, exists_and_left, exists_const, and_assoc, true_and, and_true, and_self, false_and, and_false, if_true, if_false, ite_true, ite_false, reduceCtorEq, decide_true, decide_false, decide_eq_true_eq, decide_eq_false_iff_not, Bool.not_true, Bool.not_false, Bool.false_eq_true, List.replicate_zero, List.replicate_succ, List.map_cons, List.map_nil, List.nil_append, List.cons_append, Nat.reduceSub, Nat.reduceAdd, Nat.reduceLeDiff, Nat.reduceLT, Int.reduceLT, Int.reduceLE, Int.reduceAdd, Int.reduceSub, Int.reduceMul, Int.reduceNeg, Int.reduceMod, Int.reduceDiv, Int.reducePow, Int.reduceToNat, okD_int, okD_bl, okD_lst, okD_tup, okD_non, okL_nil, okL_cons, okD_str, okL_int, eqD_int, eqD_bl, eqD_str, eqD_tup, eqD_lst, eqL_cons, eqL_nil, eqL_cn, eqL_nc, eqL_int, Bool.and_eq_true, Bool.or_eq_true, Bool.not_eq_true', Bool.and_false, Bool.false_and, Bool.or_false, Bool.false_or, Bool.or_true, Bool.true_or, Bool.and_true, Bool.true_and, Bool.and_self, wIsT2, wDct0, wLstOf, wRepF, wAsgH, DV.hN, hIx, hCons, hNil, hTup, wLM, gCnt, gIdx, gList, gSorted, wDctO, wPar3, wAppPop, wRaise0, wRaise1, wTry, wIsE, wAct, wFl, flD, gAnyX, gSumX, wCatF, wSSet, wLstR1, wLstR2, wTupR1, wFld])
    intro a5
    unfold B__law_rounds_4
    (try simp only [wSeq, wAsg, wOwn, wF, wLc, wSkip, wBrk, wCnt, wRet, wRetF, wRetN, wDrop, wIfS, wPar, wFor, wWh, wV, wApp, wExt, wSetIx, wAug, wVal, wLook, wC, wOp, wTst, wChain, wAnd, wOr, wNot, wAndV, wOrV, wNotV, wIf, wNil, wCons, wTup, wLst, wCall, wCB, wIsT, wiR1, wiR2, wiSq, wiEn, wiZip, gN, gT1, gT2, gT3, gT4, gT5, gT6, gT7, wYes, gAdd, DV.gSub, gMul, gMod, gDiv, gPow, gLt, gLe, gGt, gGe, gCmp, gEq, gNe, gIs, gIsN, DV.isNon, gIn, gNotIn, gIx, gSlc, wSlc, wNoP, wPart, gLen, gAbs, gInt, gMin2, gMax2, gAll, gAny, gSum, gTuple, wNeg, wRev, wRevX, itemsOf, D.isTy, D.isHand, Sl.toD, big_0, big_1, big_2, big_3, big_4, big_5, big_6, big_7, big_8, big_9, big_10, big_11, big_12, draw_iff, own_ex, val_ex, wipeE, restE, Sl.keep, Option.getD_some, get_z, get_s, set_z, set_s, List.length_cons, List.length_nil, atI_0, atI_1, atI_2, atI_3, atI_4, ixN_5_0, ixN_5_1, ixN_5_2, ixN_5_3, ixN_5_4, D.bl.injEq, D.int.injEq, D.lst.injEq, D.tup.injEq, D.str.injEq, Sl.own.injEq, Sl.val.injEq, Option.some.injEq, exists_eq_left', exists_eq_left, exists_eq', exists_eq, or_true, true_or, or_false, false_or, CMul, CPow, natAbs_10, natAbs_2, Int.cast_ofNat_Int, Nat.reducePow, exists_and_left, exists_const, and_assoc, true_and, and_true, and_self, false_and, and_false, if_true, if_false, ite_true, ite_false, reduceCtorEq, decide_true, decide_false, decide_eq_true_eq, decide_eq_false_iff_not, Bool.not_true, Bool.not_false, Bool.false_eq_true, List.replicate_zero, List.replicate_succ, List.map_cons, List.map_nil, List.nil_append, List.cons_append, Nat.reduceSub, Nat.reduceAdd, Nat.reduceLeDiff, Nat.reduceLT, Int.reduceLT, Int.reduceLE, Int.reduceAdd, Int.reduceSub, Int.reduceMul, Int.reduceNeg, Int.reduceMod, Int.reduceDiv, Int.reducePow, Int.reduceToNat, okD_int, okD_bl, okD_lst, okD_tup, okD_non, okL_nil, okL_cons, okD_str, okL_int, eqD_int, eqD_bl, eqD_str, eqD_tup, eqD_lst, eqL_cons, eqL_nil, eqL_cn, eqL_nc, eqL_int, Bool.and_eq_true, Bool.or_eq_true, Bool.not_eq_true', Bool.and_false, Bool.false_and, Bool.or_false, Bool.false_or, Bool.or_true, Bool.true_or, Bool.and_true, Bool.true_and, Bool.and_self, wIsT2, wDct0, wLstOf, wRepF, wAsgH, DV.hN, hIx, hCons, hNil, hTup, wLM, gCnt, gIdx, gList, gSorted, wDctO, wPar3, wAppPop, wRaise0, wRaise1, wTry, wIsE, wAct, wFl, flD, gAnyX, gSumX, wCatF, wSSet, wLstR1, wLstR2, wTupR1, wFld])
    refine ⟨by omega, by omega, ?_⟩
    refine DV.for_range (lo := 0) (hi := m) (fun j env => ∃ (t : List (List Int)) (s6 : Sl), t.length = j ∧ (∀ row ∈ t, (row.length : Int) = s ∧ ∀ x ∈ row, 0 ≤ x ∧ x < m) ∧ env = [.val .hand, .val (.int s), .val (.int m), .own a G, .val (.int (0 + (k : Int))), .own a5 (t.map dT), s6, .no]) ⟨[], _, rfl, (fun t ht => by cases ht), rfl⟩ (fun env hJ => ?_) (fun j env hj hJ nx2 hn2 => ?_)
    · obtain ⟨t, s6, htl, ht, rfl⟩ := hJ
      unfold B__law_rounds_6
      (try simp only [wSeq, wAsg, wOwn, wF, wLc, wSkip, wBrk, wCnt, wRet, wRetF, wRetN, wDrop, wIfS, wPar, wFor, wWh, wV, wApp, wExt, wSetIx, wAug, wVal, wLook, wC, wOp, wTst, wChain, wAnd, wOr, wNot, wAndV, wOrV, wNotV, wIf, wNil, wCons, wTup, wLst, wCall, wCB, wIsT, wiR1, wiR2, wiSq, wiEn, wiZip, gN, gT1, gT2, gT3, gT4, gT5, gT6, gT7, wYes, gAdd, DV.gSub, gMul, gMod, gDiv, gPow, gLt, gLe, gGt, gGe, gCmp, gEq, gNe, gIs, gIsN, DV.isNon, gIn, gNotIn, gIx, gSlc, wSlc, wNoP, wPart, gLen, gAbs, gInt, gMin2, gMax2, gAll, gAny, gSum, gTuple, wNeg, wRev, wRevX, itemsOf, D.isTy, D.isHand, Sl.toD, big_0, big_1, big_2, big_3, big_4, big_5, big_6, big_7, big_8, big_9, big_10, big_11, big_12, draw_iff, own_ex, val_ex, wipeE, restE, Sl.keep, Option.getD_some, get_z, get_s, set_z, set_s, List.length_cons, List.length_nil, atI_0, atI_1, atI_2, atI_3, atI_4, ixN_5_0, ixN_5_1, ixN_5_2, ixN_5_3, ixN_5_4, D.bl.injEq, D.int.injEq, D.lst.injEq, D.tup.injEq, D.str.injEq, Sl.own.injEq, Sl.val.injEq, Option.some.injEq, exists_eq_left', exists_eq_left, exists_eq', exists_eq, or_true, true_or, or_false, false_or, CMul, CPow, natAbs_10, natAbs_2, Int.cast_ofNat_Int, Nat.reducePow, exists_and_left, exists_const, and_assoc, true_and, and_true, and_self, false_and, and_false, if_true, if_false, ite_true, ite_false, reduceCtorEq, decide_true, decide_false, decide_eq_true_eq, decide_eq_false_iff_not, Bool.not_true, Bool.not_false, Bool.false_eq_true, List.replicate_zero, List.replicate_succ, List.map_cons, List.map_nil, List.nil_append, List.cons_append, Nat.reduceSub, Nat.reduceAdd, Nat.reduceLeDiff, Nat.reduceLT, Int.reduceLT, Int.reduceLE, Int.reduceAdd, Int.reduceSub, Int.reduceMul, Int.reduceNeg, Int.reduceMod, Int.reduceDiv, Int.reducePow, Int.reduceToNat, okD_int, okD_bl, okD_lst, okD_tup, okD_non, okL_nil, okL_cons, okD_str, okL_int, eqD_int, eqD_bl, eqD_str, eqD_tup, eqD_lst, eqL_cons, eqL_nil, eqL_cn, eqL_nc, eqL_int, Bool.and_eq_true, Bool.or_eq_true, Bool.not_eq_true', Bool.and_false, Bool.false_and, Bool.or_false, Bool.false_or, Bool.or_true, Bool.true_or, Bool.and_true, Bool.true_and, Bool.and_self, wIsT2, wDct0, wLstOf, wRepF, wAsgH, DV.hN, hIx, hCons, hNil, hTup, wLM, gCnt, gIdx, gList, gSorted, wDctO, wPar3, wAppPop, wRaise0, wRaise1, wTry, wIsE, wAct, wFl, flD, gAnyX, gSumX, wCatF, wSSet, wLstR1, wLstR2, wTupR1, wFld])
      refine ⟨by unfold big; omega, fin t _ _ ⟨by omega, ht⟩ _ rfl⟩
    · obtain ⟨t, s6, htl, ht, rfl⟩ := hJ
      have hT : (t.map dT).length ≤ 200 := by rw [List.length_map]; omega
      have fin2 : ∀ (row : List Int) (s6 : Sl), (row.length : Int) = s → (∀ x ∈ row, 0 ≤ x ∧ x < m) → ∀ e : DV.Env, e = [.val .hand, .val (.int s), .val (.int m), .own a G, .val (.int (0 + (k : Int))), .own a5 (t.map dT ++ [.tup (row.map D.int)]), s6, .no] → nx2 e := fun row s6 r1 r2 e he => by
        refine hn2 e ⟨t ++ [row], s6, by simp [htl], fun u hu => ?_, ?_⟩
        · rcases List.mem_append.mp hu with hu | hu
          · exact ht u hu
          · rw [List.mem_singleton.mp hu]; exact ⟨r1, r2⟩
        · rw [he, List.map_append]; rfl
      generalize t.map dT = T at *
      simp only [wSeq, wAsg, wOwn, wF, wLc, wSkip, wBrk, wCnt, wRet, wRetF, wRetN, wDrop, wIfS, wPar, wFor, wWh, wV, wApp, wExt, wSetIx, wAug, wVal, wLook, wC, wOp, wTst, wChain, wAnd, wOr, wNot, wAndV, wOrV, wNotV, wIf, wNil, wCons, wTup, wLst, wCall, wCB, wIsT, wiR1, wiR2, wiSq, wiEn, wiZip, gN, gT1, gT2, gT3, gT4, gT5, gT6, gT7, wYes, gAdd, DV.gSub, gMul, gMod, gDiv, gPow, gLt, gLe, gGt, gGe, gCmp, gEq, gNe, gIs, gIsN, DV.isNon, gIn, gNotIn, gIx, gSlc, wSlc, wNoP, wPart, gLen, gAbs, gInt, gMin2, gMax2, gAll, gAny, gSum, gTuple, wNeg, wRev, wRevX, itemsOf, D.isTy, D.isHand, Sl.toD, big_0, big_1, big_2, big_3, big_4, big_5, big_6, big_7, big_8, big_9, big_10, big_11, big_12, draw_iff, own_ex, val_ex, wipeE, restE, Sl.keep, Option.getD_some, get_z, get_s, set_z, set_s, List.length_cons, List.length_nil, atI_0, atI_1, atI_2, atI_3, atI_4, ixN_5_0, ixN_5_1, ixN_5_2, ixN_5_3, ixN_5_4, D.bl.injEq, D.int.injEq, D.lst.injEq, D.tup.injEq, D.str.injEq, Sl.own.injEq, Sl.val.injEq, Option.some.injEq, exists_eq_left', exists_eq_left, exists_eq', exists_eq, or_true, true_or, or_false, false_or, CMul, CPow, natAbs_10, natAbs_2, Int.cast_ofNat_Int, Nat.reducePow, exists_and_left, exists_const, and_assoc, true_and, and_true, and_self, false_and, and_false, if_true, if_false, ite_true, ite_false, reduceCtorEq, decide_true, decide_false, decide_eq_true_eq, decide_eq_false_iff_not, Bool.not_true, Bool.not_false, Bool.false_eq_true, List.replicate_zero, List.replicate_succ, List.map_cons, List.map_nil, List.nil_append, List.cons_append, Nat.reduceSub, Nat.reduceAdd, Nat.reduceLeDiff, Nat.reduceLT, Int.reduceLT, Int.reduceLE, Int.reduceAdd, Int.reduceSub, Int.reduceMul, Int.reduceNeg, Int.reduceMod, Int.reduceDiv, Int.reducePow, Int.reduceToNat, okD_int, okD_bl, okD_lst, okD_tup, okD_non, okL_nil, okL_cons, okD_str, okL_int, eqD_int, eqD_bl, eqD_str, eqD_tup, eqD_lst, eqL_cons, eqL_nil, eqL_cn, eqL_nc, eqL_int, Bool.and_eq_true, Bool.or_eq_true, Bool.not_eq_true', Bool.and_false, Bool.false_and, Bool.or_false, Bool.false_or, Bool.or_true, Bool.true_or, Bool.and_true, Bool.true_and, Bool.and_self, wIsT2, wDct0, wLstOf, wRepF, wAsgH, DV.hN, hIx, hCons, hNil, hTup, wLM, gCnt, gIdx, gList, gSorted, wDctO, wPar3, wAppPop, wRaise0, wRaise1, wTry, wIsE, wAct, wFl, flD, gAnyX, gSumX, wCatF, wSSet, wLstR1, wLstR2, wTupR1, wFld, rangeD_len]
      refine ⟨by omega, by omega, by unfold big; omega, ?_⟩
      refine lc_ints (fun x => 0 ≤ x ∧ x < m) (fun x hx K' hk => ?_) fun xs hl hx => ?_
      · obtain ⟨i, rfl, i1, i2⟩ := mem_range hx
        (try simp only [wSeq, wAsg, wOwn, wF, wLc, wSkip, wBrk, wCnt, wRet, wRetF, wRetN, wDrop, wIfS, wPar, wFor, wWh, wV, wApp, wExt, wSetIx, wAug, wVal, wLook, wC, wOp, wTst, wChain, wAnd, wOr, wNot, wAndV, wOrV, wNotV, wIf, wNil, wCons, wTup, wLst, wCall, wCB, wIsT, wiR1, wiR2, wiSq, wiEn, wiZip, gN, gT1, gT2, gT3, gT4, gT5, gT6, gT7, wYes, gAdd, DV.gSub, gMul, gMod, gDiv, gPow, gLt, gLe, gGt, gGe, gCmp, gEq, gNe, gIs, gIsN, DV.isNon, gIn, gNotIn, gIx, gSlc, wSlc, wNoP, wPart, gLen, gAbs, gInt, gMin2, gMax2, gAll, gAny, gSum, gTuple, wNeg, wRev, wRevX, itemsOf, D.isTy, D.isHand, Sl.toD, big_0, big_1, big_2, big_3, big_4, big_5, big_6, big_7, big_8, big_9, big_10, big_11, big_12, draw_iff, own_ex, val_ex, wipeE, restE, Sl.keep, Option.getD_some, get_z, get_s, set_z, set_s, List.length_cons, List.length_nil, atI_0, atI_1, atI_2, atI_3, atI_4, ixN_5_0, ixN_5_1, ixN_5_2, ixN_5_3, ixN_5_4, D.bl.injEq, D.int.injEq, D.lst.injEq, D.tup.injEq, D.str.injEq, Sl.own.injEq, Sl.val.injEq, Option.some.injEq, exists_eq_left', exists_eq_left, exists_eq', exists_eq, or_true, true_or, or_false, false_or, CMul, CPow, natAbs_10, natAbs_2, Int.cast_ofNat_Int, Nat.reducePow, exists_and_left, exists_const, and_assoc, true_and, and_true, and_self, false_and, and_false, if_true, if_false, ite_true, ite_false, reduceCtorEq, decide_true, decide_false, decide_eq_true_eq, decide_eq_false_iff_not, Bool.not_true, Bool.not_false, Bool.false_eq_true, List.replicate_zero, List.replicate_succ, List.map_cons, List.map_nil, List.nil_append, List.cons_append, Nat.reduceSub, Nat.reduceAdd, Nat.reduceLeDiff, Nat.reduceLT, Int.reduceLT, Int.reduceLE, Int.reduceAdd, Int.reduceSub, Int.reduceMul, Int.reduceNeg, Int.reduceMod, Int.reduceDiv, Int.reducePow, Int.reduceToNat, okD_int, okD_bl, okD_lst, okD_tup, okD_non, okL_nil, okL_cons, okD_str, okL_int, eqD_int, eqD_bl, eqD_str, eqD_tup, eqD_lst, eqL_cons, eqL_nil, eqL_cn, eqL_nc, eqL_int, Bool.and_eq_true, Bool.or_eq_true, Bool.not_eq_true', Bool.and_false, Bool.false_and, Bool.or_false, Bool.false_or, Bool.or_true, Bool.true_or, Bool.and_true, Bool.true_and, Bool.and_self, wIsT2, wDct0, wLstOf, wRepF, wAsgH, DV.hN, hIx, hCons, hNil, hTup, wLM, gCnt, gIdx, gList, gSorted, wDctO, wPar3, wAppPop, wRaise0, wRaise1, wTry, wIsE, wAct, wFl, flD, gAnyX, gSumX, wCatF, wSSet, wLstR1, wLstR2, wTupR1, wFld])
        exact ⟨by omega, by omega, fun c c1 c2 => hk _ ⟨c1, by omega⟩⟩
      · rw [rangeD_len] at hl
        (try simp only [wSeq, wAsg, wOwn, wF, wLc, wSkip, wBrk, wCnt, wRet, wRetF, wRetN, wDrop, wIfS, wPar, wFor, wWh, wV, wApp, wExt, wSetIx, wAug, wVal, wLook, wC, wOp, wTst, wChain, wAnd, wOr, wNot, wAndV, wOrV, wNotV, wIf, wNil, wCons, wTup, wLst, wCall, wCB, wIsT, wiR1, wiR2, wiSq, wiEn, wiZip, gN, gT1, gT2, gT3, gT4, gT5, gT6, gT7, wYes, gAdd, DV.gSub, gMul, gMod, gDiv, gPow, gLt, gLe, gGt, gGe, gCmp, gEq, gNe, gIs, gIsN, DV.isNon, gIn, gNotIn, gIx, gSlc, wSlc, wNoP, wPart, gLen, gAbs, gInt, gMin2, gMax2, gAll, gAny, gSum, gTuple, wNeg, wRev, wRevX, itemsOf, D.isTy, D.isHand, Sl.toD, big_0, big_1, big_2, big_3, big_4, big_5, big_6, big_7, big_8, big_9, big_10, big_11, big_12, draw_iff, own_ex, val_ex, wipeE, restE, Sl.keep, Option.getD_some, get_z, get_s, set_z, set_s, List.length_cons, List.length_nil, atI_0, atI_1, atI_2, atI_3, atI_4, ixN_5_0, ixN_5_1, ixN_5_2, ixN_5_3, ixN_5_4, D.bl.injEq, D.int.injEq, D.lst.injEq, D.tup.injEq, D.str.injEq, Sl.own.injEq, Sl.val.injEq, Option.some.injEq, exists_eq_left', exists_eq_left, exists_eq', exists_eq, or_true, true_or, or_false, false_or, CMul, CPow, natAbs_10, natAbs_2, Int.cast_ofNat_Int, Nat.reducePow, exists_and_left, exists_const, and_assoc, true_and, and_true, and_self, false_and, and_false, if_true, if_false, ite_true, ite_false, reduceCtorEq, decide_true, decide_false, decide_eq_true_eq, decide_eq_false_iff_not, Bool.not_true, Bool.not_false, Bool.false_eq_true, List.replicate_zero, List.replicate_succ, List.map_cons, List.map_nil, List.nil_append, List.cons_append, Nat.reduceSub, Nat.reduceAdd, Nat.reduceLeDiff, Nat.reduceLT, Int.reduceLT, Int.reduceLE, Int.reduceAdd, Int.reduceSub, Int.reduceMul, Int.reduceNeg, Int.reduceMod, Int.reduceDiv, Int.reducePow, Int.reduceToNat, okD_int, okD_bl, okD_lst, okD_tup, okD_non, okL_nil, okL_cons, okD_str, okL_int, eqD_int, eqD_bl, eqD_str, eqD_tup, eqD_lst, eqL_cons, eqL_nil, eqL_cn, eqL_nc, eqL_int, Bool.and_eq_true, Bool.or_eq_true, Bool.not_eq_true', Bool.and_false, Bool.false_and, Bool.or_false, Bool.false_or, Bool.or_true, Bool.true_or, Bool.and_true, Bool.true_and, Bool.and_self, wIsT2, wDct0, wLstOf, wRepF, wAsgH, DV.hN, hIx, hCons, hNil, hTup, wLM, gCnt, gIdx, gList, gSorted, wDctO, wPar3, wAppPop, wRaise0, wRaise1, wTry, wIsE, wAct, wFl, flD, gAnyX, gSumX, wCatF, wSSet, wLstR1, wLstR2, wTupR1, wFld])
        intro _
        exact ⟨by unfold big; omega, fin2 xs _ (by omega) hx _ rfl⟩
end

section
variable {s m : Int} {Q : D → Prop} {E : Er → Prop}
theorem sp_law_scheme {most : Int} (h1 : 2 ≤ most) (h2 : most ≤ 30) (h : ∀ s m R, SchOk s m R → s ≤ most → Q (dSch s m R)) : T__law_scheme [.hand, .int most] Q E := by
  rw [T__law_scheme_eq]; unfold wFn B__law_scheme
  (try simp only [wSeq, wAsg, wOwn, wF, wLc, wSkip, wBrk, wCnt, wRet, wRetF, wRetN, wDrop, wIfS, wPar, wFor, wWh, wV, wApp, wExt, wSetIx, wAug, wVal, wLook, wC, wOp, wTst, wChain, wAnd, wOr, wNot, wAndV, wOrV, wNotV, wIf, wNil, wCons, wTup, wLst, wCall, wCB, wIsT, wiR1, wiR2, wiSq, wiEn, wiZip, gN, gT1, gT2, gT3, gT4, gT5, gT6, gT7, wYes, gAdd, DV.gSub, gMul, gMod, gDiv, gPow, gLt, gLe, gGt, gGe, gCmp, gEq, gNe, gIs, gIsN, DV.isNon, gIn, gNotIn, gIx, gSlc, wSlc, wNoP, wPart, gLen, gAbs, gInt, gMin2, gMax2, gAll, gAny, gSum, gTuple, wNeg, wRev, wRevX, itemsOf, D.isTy, D.isHand, Sl.toD, big_0, big_1, big_2, big_3, big_4, big_5, big_6, big_7, big_8, big_9, big_10, big_11, big_12, draw_iff, own_ex, val_ex, wipeE, restE, Sl.keep, Option.getD_some, get_z, get_s, set_z, set_s, List.length_cons, List.length_nil, atI_0, atI_1, atI_2, atI_3, atI_4, ixN_5_0, ixN_5_1, ixN_5_2, ixN_5_3, ixN_5_4, D.bl.injEq, D.int.injEq, D.lst.injEq, D.tup.injEq, D.str.injEq, Sl.own.injEq, Sl.val.injEq, Option.some.injEq, exists_eq_left', exists_eq_left, exists_eq', exists_eq, or_true, true_or, or_false, false_or, CMul, CPow, natAbs_10, natAbs_2, Int.cast_ofNat_Int, Nat.reducePow, exists_and_left, exists_const, and_assoc, true_and, and_true, and_self, false_and, and_false, if_true, if_false, ite_true, ite_false, reduceCtorEq, decide_true, decide_false, decide_eq_true_eq, decide_eq_false_iff_not, Bool.not_true, Bool.not_false, Bool.false_eq_true, List.replicate_zero, List.replicate_succ, List.map_cons, List.map_nil, List.nil_append, List.cons_append, Nat.reduceSub, Nat.reduceAdd, Nat.reduceLeDiff, Nat.reduceLT, Int.reduceLT, Int.reduceLE, Int.reduceAdd, Int.reduceSub, Int.reduceMul, Int.reduceNeg, Int.reduceMod, Int.reduceDiv, Int.reducePow, Int.reduceToNat, okD_int, okD_bl, okD_lst, okD_tup, okD_non, okL_nil, okL_cons, okD_str, okL_int, eqD_int, eqD_bl, eqD_str, eqD_tup, eqD_lst, eqL_cons, eqL_nil, eqL_cn, eqL_nc, eqL_int, Bool.and_eq_true, Bool.or_eq_true, Bool.not_eq_true', Bool.and_false, Bool.false_and, Bool.or_false, Bool.false_or, Bool.or_true, Bool.true_or, Bool.and_true, Bool.true_and, Bool.and_self, wIsT2, wDct0, wLstOf, wRepF, wAsgH, DV.hN, hIx, hCons, hNil, hTup, wLM, gCnt, gIdx, gList, gSorted, wDctO, wPar3, wAppPop, wRaise0, wRaise1, wTry, wIsE, wAct, wFl, flD, gAnyX, gSumX, wCatF, wSSet, wLstR1, wLstR2, wTupR1, wFld])
  refine ⟨by omega, by omega, fun d d1 d2 c c1 c2 => ?_⟩
  have s1 : 2 ≤ 2 + d := by omega
  have s2 : 2 + d ≤ most := by omega
  have m1 : 1 ≤ 1 + c := by omega
  have m2 : 1 + c ≤ 5 := by omega
  generalize 2 + d = s at *
  generalize 1 + c = m at *
  unfold B__law_scheme_2
  (try simp only [wSeq, wAsg, wOwn, wF, wLc, wSkip, wBrk, wCnt, wRet, wRetF, wRetN, wDrop, wIfS, wPar, wFor, wWh, wV, wApp, wExt, wSetIx, wAug, wVal, wLook, wC, wOp, wTst, wChain, wAnd, wOr, wNot, wAndV, wOrV, wNotV, wIf, wNil, wCons, wTup, wLst, wCall, wCB, wIsT, wiR1, wiR2, wiSq, wiEn, wiZip, gN, gT1, gT2, gT3, gT4, gT5, gT6, gT7, wYes, gAdd, DV.gSub, gMul, gMod, gDiv, gPow, gLt, gLe, gGt, gGe, gCmp, gEq, gNe, gIs, gIsN, DV.isNon, gIn, gNotIn, gIx, gSlc, wSlc, wNoP, wPart, gLen, gAbs, gInt, gMin2, gMax2, gAll, gAny, gSum, gTuple, wNeg, wRev, wRevX, itemsOf, D.isTy, D.isHand, Sl.toD, big_0, big_1, big_2, big_3, big_4, big_5, big_6, big_7, big_8, big_9, big_10, big_11, big_12, draw_iff, own_ex, val_ex, wipeE, restE, Sl.keep, Option.getD_some, get_z, get_s, set_z, set_s, List.length_cons, List.length_nil, atI_0, atI_1, atI_2, atI_3, atI_4, ixN_5_0, ixN_5_1, ixN_5_2, ixN_5_3, ixN_5_4, D.bl.injEq, D.int.injEq, D.lst.injEq, D.tup.injEq, D.str.injEq, Sl.own.injEq, Sl.val.injEq, Option.some.injEq, exists_eq_left', exists_eq_left, exists_eq', exists_eq, or_true, true_or, or_false, false_or, CMul, CPow, natAbs_10, natAbs_2, Int.cast_ofNat_Int, Nat.reducePow, exists_and_left, exists_const, and_assoc, true_and, and_true, and_self, false_and, and_false, if_true, if_false, ite_true, ite_false, reduceCtorEq, decide_true, decide_false, decide_eq_true_eq, decide_eq_false_iff_not, Bool.not_true, Bool.not_false, Bool.false_eq_true, List.replicate_zero, List.replicate_succ, List.map_cons, List.map_nil, List.nil_append, List.cons_append, Nat.reduceSub, Nat.reduceAdd, Nat.reduceLeDiff, Nat.reduceLT, Int.reduceLT, Int.reduceLE, Int.reduceAdd, Int.reduceSub, Int.reduceMul, Int.reduceNeg, Int.reduceMod, Int.reduceDiv, Int.reducePow, Int.reduceToNat, okD_int, okD_bl, okD_lst, okD_tup, okD_non, okL_nil, okL_cons, okD_str, okL_int, eqD_int, eqD_bl, eqD_str, eqD_tup, eqD_lst, eqL_cons, eqL_nil, eqL_cn, eqL_nc, eqL_int, Bool.and_eq_true, Bool.or_eq_true, Bool.not_eq_true', Bool.and_false, Bool.false_and, Bool.or_false, Bool.false_or, Bool.or_true, Bool.true_or, Bool.and_true, Bool.true_and, Bool.and_self, wIsT2, wDct0, wLstOf, wRepF, wAsgH, DV.hN, hIx, hCons, hNil, hTup, wLM, gCnt, gIdx, gList, gSorted, wDctO, wPar3, wAppPop, wRaise0, wRaise1, wTry, wIsE, wAct, wFl, flD, gAnyX, gSumX, wCatF, wSSet, wLstR1, wLstR2, wTupR1, wFld])
  refine sp_law_rounds s1 (by omega) m1 (by omega) fun R r1 r2 hR => ?_
  (try simp only [wSeq, wAsg, wOwn, wF, wLc, wSkip, wBrk, wCnt, wRet, wRetF, wRetN, wDrop, wIfS, wPar, wFor, wWh, wV, wApp, wExt, wSetIx, wAug, wVal, wLook, wC, wOp, wTst, wChain, wAnd, wOr, wNot, wAndV, wOrV, wNotV, wIf, wNil, wCons, wTup, wLst, wCall, wCB, wIsT, wiR1, wiR2, wiSq, wiEn, wiZip, gN, gT1, gT2, gT3, gT4, gT5, gT6, gT7, wYes, gAdd, DV.gSub, gMul, gMod, gDiv, gPow, gLt, gLe, gGt, gGe, gCmp, gEq, gNe, gIs, gIsN, DV.isNon, gIn, gNotIn, gIx, gSlc, wSlc, wNoP, wPart, gLen, gAbs, gInt, gMin2, gMax2, gAll, gAny, gSum, gTuple, wNeg, wRev, wRevX, itemsOf, D.isTy, D.isHand, Sl.toD, big_0, big_1, big_2, big_3, big_4, big_5, big_6, big_7, big_8, big_9, big_10, big_11, big_12, draw_iff, own_ex, val_ex, wipeE, restE, Sl.keep, Option.getD_some, get_z, get_s, set_z, set_s, List.length_cons, List.length_nil, atI_0, atI_1, atI_2, atI_3, atI_4, ixN_5_0, ixN_5_1, ixN_5_2, ixN_5_3, ixN_5_4, D.bl.injEq, D.int.injEq, D.lst.injEq, D.tup.injEq, D.str.injEq, Sl.own.injEq, Sl.val.injEq, Option.some.injEq, exists_eq_left', exists_eq_left, exists_eq', exists_eq, or_true, true_or, or_false, false_or, CMul, CPow, natAbs_10, natAbs_2, Int.cast_ofNat_Int, Nat.reducePow, exists_and_left, exists_const, and_assoc, true_and, and_true, and_self, false_and, and_false, if_true, if_false, ite_true, ite_false, reduceCtorEq, decide_true, decide_false, decide_eq_true_eq, decide_eq_false_iff_not, Bool.not_true, Bool.not_false, Bool.false_eq_true, List.replicate_zero, List.replicate_succ, List.map_cons, List.map_nil, List.nil_append, List.cons_append, Nat.reduceSub, Nat.reduceAdd, Nat.reduceLeDiff, Nat.reduceLT, Int.reduceLT, Int.reduceLE, Int.reduceAdd, Int.reduceSub, Int.reduceMul, Int.reduceNeg, Int.reduceMod, Int.reduceDiv, Int.reducePow, Int.reduceToNat, okD_int, okD_bl, okD_lst, okD_tup, okD_non, okL_nil, okL_cons, okD_str, okL_int, eqD_int, eqD_bl, eqD_str, eqD_tup, eqD_lst, eqL_cons, eqL_nil, eqL_cn, eqL_nc, eqL_int, Bool.and_eq_true, Bool.or_eq_true, Bool.not_eq_true', Bool.and_false, Bool.false_and, Bool.or_false, Bool.false_or, Bool.or_true, Bool.true_or, Bool.and_true, Bool.true_and, Bool.and_self, wIsT2, wDct0, wLstOf, wRepF, wAsgH, DV.hN, hIx, hCons, hNil, hTup, wLM, gCnt, gIdx, gList, gSorted, wDctO, wPar3, wAppPop, wRaise0, wRaise1, wTry, wIsE, wAct, wFl, flD, gAnyX, gSumX, wCatF, wSSet, wLstR1, wLstR2, wTupR1, wFld])
  unfold B__law_scheme_3
  (try simp only [wSeq, wAsg, wOwn, wF, wLc, wSkip, wBrk, wCnt, wRet, wRetF, wRetN, wDrop, wIfS, wPar, wFor, wWh, wV, wApp, wExt, wSetIx, wAug, wVal, wLook, wC, wOp, wTst, wChain, wAnd, wOr, wNot, wAndV, wOrV, wNotV, wIf, wNil, wCons, wTup, wLst, wCall, wCB, wIsT, wiR1, wiR2, wiSq, wiEn, wiZip, gN, gT1, gT2, gT3, gT4, gT5, gT6, gT7, wYes, gAdd, DV.gSub, gMul, gMod, gDiv, gPow, gLt, gLe, gGt, gGe, gCmp, gEq, gNe, gIs, gIsN, DV.isNon, gIn, gNotIn, gIx, gSlc, wSlc, wNoP, wPart, gLen, gAbs, gInt, gMin2, gMax2, gAll, gAny, gSum, gTuple, wNeg, wRev, wRevX, itemsOf, D.isTy, D.isHand, Sl.toD, big_0, big_1, big_2, big_3, big_4, big_5, big_6, big_7, big_8, big_9, big_10, big_11, big_12, draw_iff, own_ex, val_ex, wipeE, restE, Sl.keep, Option.getD_some, get_z, get_s, set_z, set_s, List.length_cons, List.length_nil, atI_0, atI_1, atI_2, atI_3, atI_4, ixN_5_0, ixN_5_1, ixN_5_2, ixN_5_3, ixN_5_4, D.bl.injEq, D.int.injEq, D.lst.injEq, D.tup.injEq, D.str.injEq, Sl.own.injEq, Sl.val.injEq, Option.some.injEq, exists_eq_left', exists_eq_left, exists_eq', exists_eq, or_true, true_or, or_false, false_or, CMul, CPow, natAbs_10, natAbs_2, Int.cast_ofNat_Int, Nat.reducePow, exists_and_left, exists_const, and_assoc, true_and, and_true, and_self, false_and, and_false, if_true, if_false, ite_true, ite_false, reduceCtorEq, decide_true, decide_false, decide_eq_true_eq, decide_eq_false_iff_not, Bool.not_true, Bool.not_false, Bool.false_eq_true, List.replicate_zero, List.replicate_succ, List.map_cons, List.map_nil, List.nil_append, List.cons_append, Nat.reduceSub, Nat.reduceAdd, Nat.reduceLeDiff, Nat.reduceLT, Int.reduceLT, Int.reduceLE, Int.reduceAdd, Int.reduceSub, Int.reduceMul, Int.reduceNeg, Int.reduceMod, Int.reduceDiv, Int.reducePow, Int.reduceToNat, okD_int, okD_bl, okD_lst, okD_tup, okD_non, okL_nil, okL_cons, okD_str, okL_int, eqD_int, eqD_bl, eqD_str, eqD_tup, eqD_lst, eqL_cons, eqL_nil, eqL_cn, eqL_nc, eqL_int, Bool.and_eq_true, Bool.or_eq_true, Bool.not_eq_true', Bool.and_false, Bool.false_and, Bool.or_false, Bool.false_or, Bool.or_true, Bool.true_or, Bool.and_true, Bool.true_and, Bool.and_self, wIsT2, wDct0, wLstOf, wRepF, wAsgH, DV.hN, hIx, hCons, hNil, hTup, wLM, gCnt, gIdx, gList, gSorted, wDctO, wPar3, wAppPop, wRaise0, wRaise1, wTry, wIsE, wAct, wFl, flD, gAnyX, gSumX, wCatF, wSSet, wLstR1, wLstR2, wTupR1, wFld])
  intro e e1 e2
  by_cases he : e = 0
  · rw [if_pos he]
    unfold B__law_scheme_4
    (try simp only [wSeq, wAsg, wOwn, wF, wLc, wSkip, wBrk, wCnt, wRet, wRetF, wRetN, wDrop, wIfS, wPar, wFor, wWh, wV, wApp, wExt, wSetIx, wAug, wVal, wLook, wC, wOp, wTst, wChain, wAnd, wOr, wNot, wAndV, wOrV, wNotV, wIf, wNil, wCons, wTup, wLst, wCall, wCB, wIsT, wiR1, wiR2, wiSq, wiEn, wiZip, gN, gT1, gT2, gT3, gT4, gT5, gT6, gT7, wYes, gAdd, DV.gSub, gMul, gMod, gDiv, gPow, gLt, gLe, gGt, gGe, gCmp, gEq, gNe, gIs, gIsN, DV.isNon, gIn, gNotIn, gIx, gSlc, wSlc, wNoP, wPart, gLen, gAbs, gInt, gMin2, gMax2, gAll, gAny, gSum, gTuple, wNeg, wRev, wRevX, itemsOf, D.isTy, D.isHand, Sl.toD, big_0, big_1, big_2, big_3, big_4, big_5, big_6, big_7, big_8, big_9, big_10, big_11, big_12, draw_iff, own_ex, val_ex, wipeE, restE, Sl.keep, Option.getD_some, get_z, get_s, set_z, set_s, List.length_cons, List.length_nil, atI_0, atI_1, atI_2, atI_3, atI_4, ixN_5_0, ixN_5_1, ixN_5_2, ixN_5_3, ixN_5_4, D.bl.injEq, D.int.injEq, D.lst.injEq, D.tup.injEq, D.str.injEq, Sl.own.injEq, Sl.val.injEq, Option.some.injEq, exists_eq_left', exists_eq_left, exists_eq', exists_eq, or_true, true_or, or_false, false_or, CMul, CPow, natAbs_10, natAbs_2, Int.cast_ofNat_Int, Nat.reducePow, exists_and_left, exists_const, and_assoc, true_and, and_true, and_self, false_and, and_false, if_true, if_false, ite_true, ite_false, reduceCtorEq, decide_true, decide_false, decide_eq_true_eq, decide_eq_false_iff_not, Bool.not_true, Bool.not_false, Bool.false_eq_true, List.replicate_zero, List.replicate_succ, List.map_cons, List.map_nil, List.nil_append, List.cons_append, Nat.reduceSub, Nat.reduceAdd, Nat.reduceLeDiff, Nat.reduceLT, Int.reduceLT, Int.reduceLE, Int.reduceAdd, Int.reduceSub, Int.reduceMul, Int.reduceNeg, Int.reduceMod, Int.reduceDiv, Int.reducePow, Int.reduceToNat, okD_int, okD_bl, okD_lst, okD_tup, okD_non, okL_nil, okL_cons, okD_str, okL_int, eqD_int, eqD_bl, eqD_str, eqD_tup, eqD_lst, eqL_cons, eqL_nil, eqL_cn, eqL_nc, eqL_int, Bool.and_eq_true, Bool.or_eq_true, Bool.not_eq_true', Bool.and_false, Bool.false_and, Bool.or_false, Bool.false_or, Bool.or_true, Bool.true_or, Bool.and_true, Bool.true_and, Bool.and_self, wIsT2, wDct0, wLstOf, wRepF, wAsgH, DV.hN, hIx, hCons, hNil, hTup, wLM, gCnt, gIdx, gList, gSorted, wDctO, wPar3, wAppPop, wRaise0, wRaise1, wTry, wIsE, wAct, wFl, flD, gAnyX, gSumX, wCatF, wSSet, wLstR1, wLstR2, wTupR1, wFld])
    intro a5
    unfold B__law_scheme_5
    (try simp only [wSeq, wAsg, wOwn, wF, wLc, wSkip, wBrk, wCnt, wRet, wRetF, wRetN, wDrop, wIfS, wPar, wFor, wWh, wV, wApp, wExt, wSetIx, wAug, wVal, wLook, wC, wOp, wTst, wChain, wAnd, wOr, wNot, wAndV, wOrV, wNotV, wIf, wNil, wCons, wTup, wLst, wCall, wCB, wIsT, wiR1, wiR2, wiSq, wiEn, wiZip, gN, gT1, gT2, gT3, gT4, gT5, gT6, gT7, wYes, gAdd, DV.gSub, gMul, gMod, gDiv, gPow, gLt, gLe, gGt, gGe, gCmp, gEq, gNe, gIs, gIsN, DV.isNon, gIn, gNotIn, gIx, gSlc, wSlc, wNoP, wPart, gLen, gAbs, gInt, gMin2, gMax2, gAll, gAny, gSum, gTuple, wNeg, wRev, wRevX, itemsOf, D.isTy, D.isHand, Sl.toD, big_0, big_1, big_2, big_3, big_4, big_5, big_6, big_7, big_8, big_9, big_10, big_11, big_12, draw_iff, own_ex, val_ex, wipeE, restE, Sl.keep, Option.getD_some, get_z, get_s, set_z, set_s, List.length_cons, List.length_nil, atI_0, atI_1, atI_2, atI_3, atI_4, ixN_5_0, ixN_5_1, ixN_5_2, ixN_5_3, ixN_5_4, D.bl.injEq, D.int.injEq, D.lst.injEq, D.tup.injEq, D.str.injEq, Sl.own.injEq, Sl.val.injEq, Option.some.injEq, exists_eq_left', exists_eq_left, exists_eq', exists_eq, or_true, true_or, or_false, false_or, CMul, CPow, natAbs_10, natAbs_2, Int.cast_ofNat_Int, Nat.reducePow, exists_and_left, exists_const, and_assoc, true_and, and_true, and_self, false_and, and_false, if_true, if_false, ite_true, ite_false, reduceCtorEq, decide_true, decide_false, decide_eq_true_eq, decide_eq_false_iff_not, Bool.not_true, Bool.not_false, Bool.false_eq_true, List.replicate_zero, List.replicate_succ, List.map_cons, List.map_nil, List.nil_append, List.cons_append, Nat.reduceSub, Nat.reduceAdd, Nat.reduceLeDiff, Nat.reduceLT, Int.reduceLT, Int.reduceLE, Int.reduceAdd, Int.reduceSub, Int.reduceMul, Int.reduceNeg, Int.reduceMod, Int.reduceDiv, Int.reducePow, Int.reduceToNat, okD_int, okD_bl, okD_lst, okD_tup, okD_non, okL_nil, okL_cons, okD_str, okL_int, eqD_int, eqD_bl, eqD_str, eqD_tup, eqD_lst, eqL_cons, eqL_nil, eqL_cn, eqL_nc, eqL_int, Bool.and_eq_true, Bool.or_eq_true, Bool.not_eq_true', Bool.and_false, Bool.false_and, Bool.or_false, Bool.false_or, Bool.or_true, Bool.true_or, Bool.and_true, Bool.true_and, Bool.and_self, wIsT2, wDct0, wLstOf, wRepF, wAsgH, DV.hN, hIx, hCons, hNil, hTup, wLM, gCnt, gIdx, gList, gSorted, wDctO, wPar3, wAppPop, wRaise0, wRaise1, wTry, wIsE, wAct, wFl, flD, gAnyX, gSumX, wCatF, wSSet, wLstR1, wLstR2, wTupR1, wFld])
    refine ⟨by omega, by omega, ?_⟩
    refine DV.for_range (lo := 0) (hi := s) (fun j env => ∃ (t : List (List Int)) (s6 : Sl), t.length = j ∧ (∀ row ∈ t, (row.length : Int) = s ∧ ∀ x ∈ row, 0 ≤ x ∧ x < s) ∧ env = [.val .hand, .val (.int most), .val (.int s), .val (.int m), .val (dR R), .own a5 (t.map dT), s6, .no]) ⟨[], _, rfl, (fun t ht => by cases ht), rfl⟩ (fun env hJ => ?_) (fun j env hj hJ nx2 hn2 => ?_)
    · obtain ⟨t, s6, htl, ht, rfl⟩ := hJ
      unfold B__law_scheme_7
      (try simp only [wSeq, wAsg, wOwn, wF, wLc, wSkip, wBrk, wCnt, wRet, wRetF, wRetN, wDrop, wIfS, wPar, wFor, wWh, wV, wApp, wExt, wSetIx, wAug, wVal, wLook, wC, wOp, wTst, wChain, wAnd, wOr, wNot, wAndV, wOrV, wNotV, wIf, wNil, wCons, wTup, wLst, wCall, wCB, wIsT, wiR1, wiR2, wiSq, wiEn, wiZip, gN, gT1, gT2, gT3, gT4, gT5, gT6, gT7, wYes, gAdd, DV.gSub, gMul, gMod, gDiv, gPow, gLt, gLe, gGt, gGe, gCmp, gEq, gNe, gIs, gIsN, DV.isNon, gIn, gNotIn, gIx, gSlc, wSlc, wNoP, wPart, gLen, gAbs, gInt, gMin2, gMax2, gAll, gAny, gSum, gTuple, wNeg, wRev, wRevX, itemsOf, D.isTy, D.isHand, Sl.toD, big_0, big_1, big_2, big_3, big_4, big_5, big_6, big_7, big_8, big_9, big_10, big_11, big_12, draw_iff, own_ex, val_ex, wipeE, restE, Sl.keep, Option.getD_some, get_z, get_s, set_z, set_s, List.length_cons, List.length_nil, atI_0, atI_1, atI_2, atI_3, atI_4, ixN_5_0, ixN_5_1, ixN_5_2, ixN_5_3, ixN_5_4, D.bl.injEq, D.int.injEq, D.lst.injEq, D.tup.injEq, D.str.injEq, Sl.own.injEq, Sl.val.injEq, Option.some.injEq, exists_eq_left', exists_eq_left, exists_eq', exists_eq, or_true, true_or, or_false, false_or, CMul, CPow, natAbs_10, natAbs_2, Int.cast_ofNat_Int, Nat.reducePow, exists_and_left, exists_const, and_assoc, true_and, and_true, and_self, false_and, and_false, if_true, if_false, ite_true, ite_false, reduceCtorEq, decide_true, decide_false, decide_eq_true_eq, decide_eq_false_iff_not, Bool.not_true, Bool.not_false, Bool.false_eq_true, List.replicate_zero, List.replicate_succ, List.map_cons, List.map_nil, List.nil_append, List.cons_append, Nat.reduceSub, Nat.reduceAdd, Nat.reduceLeDiff, Nat.reduceLT, Int.reduceLT, Int.reduceLE, Int.reduceAdd, Int.reduceSub, Int.reduceMul, Int.reduceNeg, Int.reduceMod, Int.reduceDiv, Int.reducePow, Int.reduceToNat, okD_int, okD_bl, okD_lst, okD_tup, okD_non, okL_nil, okL_cons, okD_str, okL_int, eqD_int, eqD_bl, eqD_str, eqD_tup, eqD_lst, eqL_cons, eqL_nil, eqL_cn, eqL_nc, eqL_int, Bool.and_eq_true, Bool.or_eq_true, Bool.not_eq_true', Bool.and_false, Bool.false_and, Bool.or_false, Bool.false_or, Bool.or_true, Bool.true_or, Bool.and_true, Bool.true_and, Bool.and_self, wIsT2, wDct0, wLstOf, wRepF, wAsgH, DV.hN, hIx, hCons, hNil, hTup, wLM, gCnt, gIdx, gList, gSorted, wDctO, wPar3, wAppPop, wRaise0, wRaise1, wTry, wIsE, wAct, wFl, flD, gAnyX, gSumX, wCatF, wSSet, wLstR1, wLstR2, wTupR1, wFld])
      unfold B__law_scheme_8
      (try simp only [wSeq, wAsg, wOwn, wF, wLc, wSkip, wBrk, wCnt, wRet, wRetF, wRetN, wDrop, wIfS, wPar, wFor, wWh, wV, wApp, wExt, wSetIx, wAug, wVal, wLook, wC, wOp, wTst, wChain, wAnd, wOr, wNot, wAndV, wOrV, wNotV, wIf, wNil, wCons, wTup, wLst, wCall, wCB, wIsT, wiR1, wiR2, wiSq, wiEn, wiZip, gN, gT1, gT2, gT3, gT4, gT5, gT6, gT7, wYes, gAdd, DV.gSub, gMul, gMod, gDiv, gPow, gLt, gLe, gGt, gGe, gCmp, gEq, gNe, gIs, gIsN, DV.isNon, gIn, gNotIn, gIx, gSlc, wSlc, wNoP, wPart, gLen, gAbs, gInt, gMin2, gMax2, gAll, gAny, gSum, gTuple, wNeg, wRev, wRevX, itemsOf, D.isTy, D.isHand, Sl.toD, big_0, big_1, big_2, big_3, big_4, big_5, big_6, big_7, big_8, big_9, big_10, big_11, big_12, draw_iff, own_ex, val_ex, wipeE, restE, Sl.keep, Option.getD_some, get_z, get_s, set_z, set_s, List.length_cons, List.length_nil, atI_0, atI_1, atI_2, atI_3, atI_4, ixN_5_0, ixN_5_1, ixN_5_2, ixN_5_3, ixN_5_4, D.bl.injEq, D.int.injEq, D.lst.injEq, D.tup.injEq, D.str.injEq, Sl.own.injEq, Sl.val.injEq, Option.some.injEq, exists_eq_left', exists_eq_left, exists_eq', exists_eq, or_true, true_or, or_false, false_or, CMul, CPow, natAbs_10, natAbs_2, Int.cast_ofNat_Int, Nat.reducePow, exists_and_left, exists_const, and_assoc, true_and, and_true, and_self, false_and, and_false, if_true, if_false, ite_true, ite_false, reduceCtorEq, decide_true, decide_false, decide_eq_true_eq, decide_eq_false_iff_not, Bool.not_true, Bool.not_false, Bool.false_eq_true, List.replicate_zero, List.replicate_succ, List.map_cons, List.map_nil, List.nil_append, List.cons_append, Nat.reduceSub, Nat.reduceAdd, Nat.reduceLeDiff, Nat.reduceLT, Int.reduceLT, Int.reduceLE, Int.reduceAdd, Int.reduceSub, Int.reduceMul, Int.reduceNeg, Int.reduceMod, Int.reduceDiv, Int.reducePow, Int.reduceToNat, okD_int, okD_bl, okD_lst, okD_tup, okD_non, okL_nil, okL_cons, okD_str, okL_int, eqD_int, eqD_bl, eqD_str, eqD_tup, eqD_lst, eqL_cons, eqL_nil, eqL_cn, eqL_nc, eqL_int, Bool.and_eq_true, Bool.or_eq_true, Bool.not_eq_true', Bool.and_false, Bool.false_and, Bool.or_false, Bool.false_or, Bool.or_true, Bool.true_or, Bool.and_true, Bool.true_and, Bool.and_self, wIsT2, wDct0, wLstOf, wRepF, wAsgH, DV.hN, hIx, hCons, hNil, hTup, wLM, gCnt, gIdx, gList, gSorted, wDctO, wPar3, wAppPop, wRaise0, wRaise1, wTry, wIsE, wAct, wFl, flD, gAnyX, gSumX, wCatF, wSSet, wLstR1, wLstR2, wTupR1, wFld])
      have o : SchOk s s [t] := ⟨s1, by omega, by omega, by omega, by simp, by simp, fun u hu => by rw [List.mem_singleton.mp hu]; exact ⟨by omega, ht⟩⟩
      exact sp_Scheme o (h _ _ _ o s2)
    · obtain ⟨t, s6, htl, ht, rfl⟩ := hJ
      have hT : (t.map dT).length ≤ 200 := by rw [List.length_map]; omega
      have fin2 : ∀ (row : List Int) (s6 : Sl), (row.length : Int) = s → (∀ x ∈ row, 0 ≤ x ∧ x < s) → ∀ e : DV.Env, e = [.val .hand, .val (.int most), .val (.int s), .val (.int m), .val (dR R), .own a5 (t.map dT ++ [.tup (row.map D.int)]), s6, .no] → nx2 e := fun row s6 r1 r2 e he => by
        refine hn2 e ⟨t ++ [row], s6, by simp [htl], fun u hu => ?_, ?_⟩
        · rcases List.mem_append.mp hu with hu | hu
          · exact ht u hu
          · rw [List.mem_singleton.mp hu]; exact ⟨r1, r2⟩
        · rw [he, List.map_append]; rfl
      generalize t.map dT = T at *
      simp only [wSeq, wAsg, wOwn, wF, wLc, wSkip, wBrk, wCnt, wRet, wRetF, wRetN, wDrop, wIfS, wPar, wFor, wWh, wV, wApp, wExt, wSetIx, wAug, wVal, wLook, wC, wOp, wTst, wChain, wAnd, wOr, wNot, wAndV, wOrV, wNotV, wIf, wNil, wCons, wTup, wLst, wCall, wCB, wIsT, wiR1, wiR2, wiSq, wiEn, wiZip, gN, gT1, gT2, gT3, gT4, gT5, gT6, gT7, wYes, gAdd, DV.gSub, gMul, gMod, gDiv, gPow, gLt, gLe, gGt, gGe, gCmp, gEq, gNe, gIs, gIsN, DV.isNon, gIn, gNotIn, gIx, gSlc, wSlc, wNoP, wPart, gLen, gAbs, gInt, gMin2, gMax2, gAll, gAny, gSum, gTuple, wNeg, wRev, wRevX, itemsOf, D.isTy, D.isHand, Sl.toD, big_0, big_1, big_2, big_3, big_4, big_5, big_6, big_7, big_8, big_9, big_10, big_11, big_12, draw_iff, own_ex, val_ex, wipeE, restE, Sl.keep, Option.getD_some, get_z, get_s, set_z, set_s, List.length_cons, List.length_nil, atI_0, atI_1, atI_2, atI_3, atI_4, ixN_5_0, ixN_5_1, ixN_5_2, ixN_5_3, ixN_5_4, D.bl.injEq, D.int.injEq, D.lst.injEq, D.tup.injEq, D.str.injEq, Sl.own.injEq, Sl.val.injEq, Option.some.injEq, exists_eq_left', exists_eq_left, exists_eq', exists_eq, or_true, true_or, or_false, false_or, CMul, CPow, natAbs_10, natAbs_2, Int.cast_ofNat_Int, Nat.reducePow, exists_and_left, exists_const, and_assoc, true_and, and_true, and_self, false_and, and_false, if_true, if_false, ite_true, ite_false, reduceCtorEq, decide_true, decide_false, decide_eq_true_eq, decide_eq_false_iff_not, Bool.not_true, Bool.not_false, Bool.false_eq_true, List.replicate_zero, List.replicate_succ, List.map_cons, List.map_nil, List.nil_append, List.cons_append, Nat.reduceSub, Nat.reduceAdd, Nat.reduceLeDiff, Nat.reduceLT, Int.reduceLT, Int.reduceLE, Int.reduceAdd, Int.reduceSub, Int.reduceMul, Int.reduceNeg, Int.reduceMod, Int.reduceDiv, Int.reducePow, Int.reduceToNat, okD_int, okD_bl, okD_lst, okD_tup, okD_non, okL_nil, okL_cons, okD_str, okL_int, eqD_int, eqD_bl, eqD_str, eqD_tup, eqD_lst, eqL_cons, eqL_nil, eqL_cn, eqL_nc, eqL_int, Bool.and_eq_true, Bool.or_eq_true, Bool.not_eq_true', Bool.and_false, Bool.false_and, Bool.or_false, Bool.false_or, Bool.or_true, Bool.true_or, Bool.and_true, Bool.true_and, Bool.and_self, wIsT2, wDct0, wLstOf, wRepF, wAsgH, DV.hN, hIx, hCons, hNil, hTup, wLM, gCnt, gIdx, gList, gSorted, wDctO, wPar3, wAppPop, wRaise0, wRaise1, wTry, wIsE, wAct, wFl, flD, gAnyX, gSumX, wCatF, wSSet, wLstR1, wLstR2, wTupR1, wFld, rangeD_len]
      refine ⟨by omega, by omega, by unfold big; omega, ?_⟩
      refine lc_ints (fun x => 0 ≤ x ∧ x < s) (fun x hx K' hk => ?_) fun xs hl hx => ?_
      · obtain ⟨i, rfl, i1, i2⟩ := mem_range hx
        (try simp only [wSeq, wAsg, wOwn, wF, wLc, wSkip, wBrk, wCnt, wRet, wRetF, wRetN, wDrop, wIfS, wPar, wFor, wWh, wV, wApp, wExt, wSetIx, wAug, wVal, wLook, wC, wOp, wTst, wChain, wAnd, wOr, wNot, wAndV, wOrV, wNotV, wIf, wNil, wCons, wTup, wLst, wCall, wCB, wIsT, wiR1, wiR2, wiSq, wiEn, wiZip, gN, gT1, gT2, gT3, gT4, gT5, gT6, gT7, wYes, gAdd, DV.gSub, gMul, gMod, gDiv, gPow, gLt, gLe, gGt, gGe, gCmp, gEq, gNe, gIs, gIsN, DV.isNon, gIn, gNotIn, gIx, gSlc, wSlc, wNoP, wPart, gLen, gAbs, gInt, gMin2, gMax2, gAll, gAny, gSum, gTuple, wNeg, wRev, wRevX, itemsOf, D.isTy, D.isHand, Sl.toD, big_0, big_1, big_2, big_3, big_4, big_5, big_6, big_7, big_8, big_9, big_10, big_11, big_12, draw_iff, own_ex, val_ex, wipeE, restE, Sl.keep, Option.getD_some, get_z, get_s, set_z, set_s, List.length_cons, List.length_nil, atI_0, atI_1, atI_2, atI_3, atI_4, ixN_5_0, ixN_5_1, ixN_5_2, ixN_5_3, ixN_5_4, D.bl.injEq, D.int.injEq, D.lst.injEq, D.tup.injEq, D.str.injEq, Sl.own.injEq, Sl.val.injEq, Option.some.injEq, exists_eq_left', exists_eq_left, exists_eq', exists_eq, or_true, true_or, or_false, false_or, CMul, CPow, natAbs_10, natAbs_2, Int.cast_ofNat_Int, Nat.reducePow, exists_and_left, exists_const, and_assoc, true_and, and_true, and_self, false_and, and_false, if_true, if_false, ite_true, ite_false, reduceCtorEq, decide_true, decide_false, decide_eq_true_eq, decide_eq_false_iff_not, Bool.not_true, Bool.not_false, Bool.false_eq_true, List.replicate_zero, List.replicate_succ, List.map_cons, List.map_nil, List.nil_append, List.cons_append, Nat.reduceSub, Nat.reduceAdd, Nat.reduceLeDiff, Nat.reduceLT, Int.reduceLT, Int.reduceLE, Int.reduceAdd, Int.reduceSub, Int.reduceMul, Int.reduceNeg, Int.reduceMod, Int.reduceDiv, Int.reducePow, Int.reduceToNat, okD_int, okD_bl, okD_lst, okD_tup, okD_non, okL_nil, okL_cons, okD_str, okL_int, eqD_int, eqD_bl, eqD_str, eqD_tup, eqD_lst, eqL_cons, eqL_nil, eqL_cn, eqL_nc, eqL_int, Bool.and_eq_true, Bool.or_eq_true, Bool.not_eq_true', Bool.and_false, Bool.false_and, Bool.or_false, Bool.false_or, Bool.or_true, Bool.true_or, Bool.and_true, Bool.true_and, Bool.and_self, wIsT2, wDct0, wLstOf, wRepF, wAsgH, DV.hN, hIx, hCons, hNil, hTup, wLM, gCnt, gIdx, gList, gSorted, wDctO, wPar3, wAppPop, wRaise0, wRaise1, wTry, wIsE, wAct, wFl, flD, gAnyX, gSumX, wCatF, wSSet, wLstR1, wLstR2, wTupR1, wFld])
        exact ⟨by omega, hk _ ⟨Int.emod_nonneg _ (by omega), Int.emod_lt_of_pos _ (by omega)⟩⟩
      · rw [rangeD_len] at hl
        (try simp only [wSeq, wAsg, wOwn, wF, wLc, wSkip, wBrk, wCnt, wRet, wRetF, wRetN, wDrop, wIfS, wPar, wFor, wWh, wV, wApp, wExt, wSetIx, wAug, wVal, wLook, wC, wOp, wTst, wChain, wAnd, wOr, wNot, wAndV, wOrV, wNotV, wIf, wNil, wCons, wTup, wLst, wCall, wCB, wIsT, wiR1, wiR2, wiSq, wiEn, wiZip, gN, gT1, gT2, gT3, gT4, gT5, gT6, gT7, wYes, gAdd, DV.gSub, gMul, gMod, gDiv, gPow, gLt, gLe, gGt, gGe, gCmp, gEq, gNe, gIs, gIsN, DV.isNon, gIn, gNotIn, gIx, gSlc, wSlc, wNoP, wPart, gLen, gAbs, gInt, gMin2, gMax2, gAll, gAny, gSum, gTuple, wNeg, wRev, wRevX, itemsOf, D.isTy, D.isHand, Sl.toD, big_0, big_1, big_2, big_3, big_4, big_5, big_6, big_7, big_8, big_9, big_10, big_11, big_12, draw_iff, own_ex, val_ex, wipeE, restE, Sl.keep, Option.getD_some, get_z, get_s, set_z, set_s, List.length_cons, List.length_nil, atI_0, atI_1, atI_2, atI_3, atI_4, ixN_5_0, ixN_5_1, ixN_5_2, ixN_5_3, ixN_5_4, D.bl.injEq, D.int.injEq, D.lst.injEq, D.tup.injEq, D.str.injEq, Sl.own.injEq, Sl.val.injEq, Option.some.injEq, exists_eq_left', exists_eq_left, exists_eq', exists_eq, or_true, true_or, or_false, false_or, CMul, CPow, natAbs_10, natAbs_2, Int.cast_ofNat_Int, Nat.reducePow, exists_and_left, exists_const, and_assoc, true_and, and_true, and_self, false_and, and_false, if_true, if_false, ite_true, ite_false, reduceCtorEq, decide_true, decide_false, decide_eq_true_eq, decide_eq_false_iff_not, Bool.not_true, Bool.not_false, Bool.false_eq_true, List.replicate_zero, List.replicate_succ, List.map_cons, List.map_nil, List.nil_append, List.cons_append, Nat.reduceSub, Nat.reduceAdd, Nat.reduceLeDiff, Nat.reduceLT, Int.reduceLT, Int.reduceLE, Int.reduceAdd, Int.reduceSub, Int.reduceMul, Int.reduceNeg, Int.reduceMod, Int.reduceDiv, Int.reducePow, Int.reduceToNat, okD_int, okD_bl, okD_lst, okD_tup, okD_non, okL_nil, okL_cons, okD_str, okL_int, eqD_int, eqD_bl, eqD_str, eqD_tup, eqD_lst, eqL_cons, eqL_nil, eqL_cn, eqL_nc, eqL_int, Bool.and_eq_true, Bool.or_eq_true, Bool.not_eq_true', Bool.and_false, Bool.false_and, Bool.or_false, Bool.false_or, Bool.or_true, Bool.true_or, Bool.and_true, Bool.true_and, Bool.and_self, wIsT2, wDct0, wLstOf, wRepF, wAsgH, DV.hN, hIx, hCons, hNil, hTup, wLM, gCnt, gIdx, gList, gSorted, wDctO, wPar3, wAppPop, wRaise0, wRaise1, wTry, wIsE, wAct, wFl, flD, gAnyX, gSumX, wCatF, wSSet, wLstR1, wLstR2, wTupR1, wFld])
        intro _
        exact ⟨by unfold big; omega, fin2 xs _ (by omega) hx _ rfl⟩
  · rw [if_neg he]
    unfold B__law_scheme_8
    (try simp only [wSeq, wAsg, wOwn, wF, wLc, wSkip, wBrk, wCnt, wRet, wRetF, wRetN, wDrop, wIfS, wPar, wFor, wWh, wV, wApp, wExt, wSetIx, wAug, wVal, wLook, wC, wOp, wTst, wChain, wAnd, wOr, wNot, wAndV, wOrV, wNotV, wIf, wNil, wCons, wTup, wLst, wCall, wCB, wIsT, wiR1, wiR2, wiSq, wiEn, wiZip, gN, gT1, gT2, gT3, gT4, gT5, gT6, gT7, wYes, gAdd, DV.gSub, gMul, gMod, gDiv, gPow, gLt, gLe, gGt, gGe, gCmp, gEq, gNe, gIs, gIsN, DV.isNon, gIn, gNotIn, gIx, gSlc, wSlc, wNoP, wPart, gLen, gAbs, gInt, gMin2, gMax2, gAll, gAny, gSum, gTuple, wNeg, wRev, wRevX, itemsOf, D.isTy, D.isHand, Sl.toD, big_0, big_1, big_2, big_3, big_4, big_5, big_6, big_7, big_8, big_9, big_10, big_11, big_12, draw_iff, own_ex, val_ex, wipeE, restE, Sl.keep, Option.getD_some, get_z, get_s, set_z, set_s, List.length_cons, List.length_nil, atI_0, atI_1, atI_2, atI_3, atI_4, ixN_5_0, ixN_5_1, ixN_5_2, ixN_5_3, ixN_5_4, D.bl.injEq, D.int.injEq, D.lst.injEq, D.tup.injEq, D.str.injEq, Sl.own.injEq, Sl.val.injEq, Option.some.injEq, exists_eq_left', exists_eq_left, exists_eq', exists_eq, or_true, true_or, or_false, false_or, CMul, CPow, natAbs_10, natAbs_2, Int.cast_ofNat_Int, Nat.reducePow, exists_and_left, exists_const, and_assoc, true_and, and_true, and_self, false_and, and_false, if_true, if_false, ite_true, ite_false, reduceCtorEq, decide_true, decide_false, decide_eq_true_eq, decide_eq_false_iff_not, Bool.not_true, Bool.not_false, Bool.false_eq_true, List.replicate_zero, List.replicate_succ, List.map_cons, List.map_nil, List.nil_append, List.cons_append, Nat.reduceSub, Nat.reduceAdd, Nat.reduceLeDiff, Nat.reduceLT, Int.reduceLT, Int.reduceLE, Int.reduceAdd, Int.reduceSub, Int.reduceMul, Int.reduceNeg, Int.reduceMod, Int.reduceDiv, Int.reducePow, Int.reduceToNat, okD_int, okD_bl, okD_lst, okD_tup, okD_non, okL_nil, okL_cons, okD_str, okL_int, eqD_int, eqD_bl, eqD_str, eqD_tup, eqD_lst, eqL_cons, eqL_nil, eqL_cn, eqL_nc, eqL_int, Bool.and_eq_true, Bool.or_eq_true, Bool.not_eq_true', Bool.and_false, Bool.false_and, Bool.or_false, Bool.false_or, Bool.or_true, Bool.true_or, Bool.and_true, Bool.true_and, Bool.and_self, wIsT2, wDct0, wLstOf, wRepF, wAsgH, DV.hN, hIx, hCons, hNil, hTup, wLM, gCnt, gIdx, gList, gSorted, wDctO, wPar3, wAppPop, wRaise0, wRaise1, wTry, wIsE, wAct, wFl, flD, gAnyX, gSumX, wCatF, wSSet, wLstR1, wLstR2, wTupR1, wFld])
    have o : SchOk s m R := ⟨s1, by omega, m1, by omega, r1, by omega, hR⟩
    exact sp_Scheme o (h _ _ _ o s2)
end
theorem nm4 : (["NoWord"] : List Str).contains "NoWord" = true := by decide +kernel
theorem sp_said_w {tD : Tl} {Q : D → Prop} (h : ∀ Q' E', E' ("NoWord", []) → tD Q' E') (hq : Q (.str "word")) : F__law_said tD Q := by
  rw [F__law_said_eq]; unfold wFl
  intro f
  unfold B__law_said
  (try simp only [wSeq, wAsg, wOwn, wF, wLc, wSkip, wBrk, wCnt, wRet, wRetF, wRetN, wDrop, wIfS, wPar, wFor, wWh, wV, wApp, wExt, wSetIx, wAug, wVal, wLook, wC, wOp, wTst, wChain, wAnd, wOr, wNot, wAndV, wOrV, wNotV, wIf, wNil, wCons, wTup, wLst, wCall, wCB, wIsT, wiR1, wiR2, wiSq, wiEn, wiZip, gN, gT1, gT2, gT3, gT4, gT5, gT6, gT7, wYes, gAdd, DV.gSub, gMul, gMod, gDiv, gPow, gLt, gLe, gGt, gGe, gCmp, gEq, gNe, gIs, gIsN, DV.isNon, gIn, gNotIn, gIx, gSlc, wSlc, wNoP, wPart, gLen, gAbs, gInt, gMin2, gMax2, gAll, gAny, gSum, gTuple, wNeg, wRev, wRevX, itemsOf, D.isTy, D.isHand, Sl.toD, big_0, big_1, big_2, big_3, big_4, big_5, big_6, big_7, big_8, big_9, big_10, big_11, big_12, draw_iff, own_ex, val_ex, wipeE, restE, Sl.keep, Option.getD_some, get_z, get_s, set_z, set_s, List.length_cons, List.length_nil, atI_0, atI_1, atI_2, atI_3, atI_4, ixN_5_0, ixN_5_1, ixN_5_2, ixN_5_3, ixN_5_4, D.bl.injEq, D.int.injEq, D.lst.injEq, D.tup.injEq, D.str.injEq, Sl.own.injEq, Sl.val.injEq, Option.some.injEq, exists_eq_left', exists_eq_left, exists_eq', exists_eq, or_true, true_or, or_false, false_or, CMul, CPow, natAbs_10, natAbs_2, Int.cast_ofNat_Int, Nat.reducePow, exists_and_left, exists_const, and_assoc, true_and, and_true, and_self, false_and, and_false, if_true, if_false, ite_true, ite_false, reduceCtorEq, decide_true, decide_false, decide_eq_true_eq, decide_eq_false_iff_not, Bool.not_true, Bool.not_false, Bool.false_eq_true, List.replicate_zero, List.replicate_succ, List.map_cons, List.map_nil, List.nil_append, List.cons_append, Nat.reduceSub, Nat.reduceAdd, Nat.reduceLeDiff, Nat.reduceLT, Int.reduceLT, Int.reduceLE, Int.reduceAdd, Int.reduceSub, Int.reduceMul, Int.reduceNeg, Int.reduceMod, Int.reduceDiv, Int.reducePow, Int.reduceToNat, okD_int, okD_bl, okD_lst, okD_tup, okD_non, okL_nil, okL_cons, okD_str, okL_int, eqD_int, eqD_bl, eqD_str, eqD_tup, eqD_lst, eqL_cons, eqL_nil, eqL_cn, eqL_nc, eqL_int, Bool.and_eq_true, Bool.or_eq_true, Bool.not_eq_true', Bool.and_false, Bool.false_and, Bool.or_false, Bool.false_or, Bool.or_true, Bool.true_or, Bool.and_true, Bool.true_and, Bool.and_self, wIsT2, wDct0, wLstOf, wRepF, wAsgH, DV.hN, hIx, hCons, hNil, hTup, wLM, gCnt, gIdx, gList, gSorted, wDctO, wPar3, wAppPop, wRaise0, wRaise1, wTry, wIsE, wAct, wFl, flD, gAnyX, gSumX, wCatF, wSSet, wLstR1, wLstR2, wTupR1, wFld])
  refine h _ _ fun a dd => ?_
  unfold B__law_said_4
  simp only [wSeq, wAsg, wOwn, wF, wLc, wSkip, wBrk, wCnt, wRet, wRetF, wRetN, wDrop, wIfS, wPar, wFor, wWh, wV, wApp, wExt, wSetIx, wAug, wVal, wLook, wC, wOp, wTst, wChain, wAnd, wOr, wNot, wAndV, wOrV, wNotV, wIf, wNil, wCons, wTup, wLst, wCall, wCB, wIsT, wiR1, wiR2, wiSq, wiEn, wiZip, gN, gT1, gT2, gT3, gT4, gT5, gT6, gT7, wYes, gAdd, DV.gSub, gMul, gMod, gDiv, gPow, gLt, gLe, gGt, gGe, gCmp, gEq, gNe, gIs, gIsN, DV.isNon, gIn, gNotIn, gIx, gSlc, wSlc, wNoP, wPart, gLen, gAbs, gInt, gMin2, gMax2, gAll, gAny, gSum, gTuple, wNeg, wRev, wRevX, itemsOf, D.isTy, D.isHand, Sl.toD, big_0, big_1, big_2, big_3, big_4, big_5, big_6, big_7, big_8, big_9, big_10, big_11, big_12, draw_iff, own_ex, val_ex, wipeE, restE, Sl.keep, Option.getD_some, get_z, get_s, set_z, set_s, List.length_cons, List.length_nil, atI_0, atI_1, atI_2, atI_3, atI_4, ixN_5_0, ixN_5_1, ixN_5_2, ixN_5_3, ixN_5_4, D.bl.injEq, D.int.injEq, D.lst.injEq, D.tup.injEq, D.str.injEq, Sl.own.injEq, Sl.val.injEq, Option.some.injEq, exists_eq_left', exists_eq_left, exists_eq', exists_eq, or_true, true_or, or_false, false_or, CMul, CPow, natAbs_10, natAbs_2, Int.cast_ofNat_Int, Nat.reducePow, exists_and_left, exists_const, and_assoc, true_and, and_true, and_self, false_and, and_false, if_true, if_false, ite_true, ite_false, reduceCtorEq, decide_true, decide_false, decide_eq_true_eq, decide_eq_false_iff_not, Bool.not_true, Bool.not_false, Bool.false_eq_true, List.replicate_zero, List.replicate_succ, List.map_cons, List.map_nil, List.nil_append, List.cons_append, Nat.reduceSub, Nat.reduceAdd, Nat.reduceLeDiff, Nat.reduceLT, Int.reduceLT, Int.reduceLE, Int.reduceAdd, Int.reduceSub, Int.reduceMul, Int.reduceNeg, Int.reduceMod, Int.reduceDiv, Int.reducePow, Int.reduceToNat, okD_int, okD_bl, okD_lst, okD_tup, okD_non, okL_nil, okL_cons, okD_str, okL_int, eqD_int, eqD_bl, eqD_str, eqD_tup, eqD_lst, eqL_cons, eqL_nil, eqL_cn, eqL_nc, eqL_int, Bool.and_eq_true, Bool.or_eq_true, Bool.not_eq_true', Bool.and_false, Bool.false_and, Bool.or_false, Bool.false_or, Bool.or_true, Bool.true_or, Bool.and_true, Bool.true_and, Bool.and_self, wIsT2, wDct0, wLstOf, wRepF, wAsgH, DV.hN, hIx, hCons, hNil, hTup, wLM, gCnt, gIdx, gList, gSorted, wDctO, wPar3, wAppPop, wRaise0, wRaise1, wTry, wIsE, wAct, wFl, flD, gAnyX, gSumX, wCatF, wSSet, wLstR1, wLstR2, wTupR1, wFld, nm4]
  unfold B__law_said_5
  simp only [wSeq, wAsg, wOwn, wF, wLc, wSkip, wBrk, wCnt, wRet, wRetF, wRetN, wDrop, wIfS, wPar, wFor, wWh, wV, wApp, wExt, wSetIx, wAug, wVal, wLook, wC, wOp, wTst, wChain, wAnd, wOr, wNot, wAndV, wOrV, wNotV, wIf, wNil, wCons, wTup, wLst, wCall, wCB, wIsT, wiR1, wiR2, wiSq, wiEn, wiZip, gN, gT1, gT2, gT3, gT4, gT5, gT6, gT7, wYes, gAdd, DV.gSub, gMul, gMod, gDiv, gPow, gLt, gLe, gGt, gGe, gCmp, gEq, gNe, gIs, gIsN, DV.isNon, gIn, gNotIn, gIx, gSlc, wSlc, wNoP, wPart, gLen, gAbs, gInt, gMin2, gMax2, gAll, gAny, gSum, gTuple, wNeg, wRev, wRevX, itemsOf, D.isTy, D.isHand, Sl.toD, big_0, big_1, big_2, big_3, big_4, big_5, big_6, big_7, big_8, big_9, big_10, big_11, big_12, draw_iff, own_ex, val_ex, wipeE, restE, Sl.keep, Option.getD_some, get_z, get_s, set_z, set_s, List.length_cons, List.length_nil, atI_0, atI_1, atI_2, atI_3, atI_4, ixN_5_0, ixN_5_1, ixN_5_2, ixN_5_3, ixN_5_4, D.bl.injEq, D.int.injEq, D.lst.injEq, D.tup.injEq, D.str.injEq, Sl.own.injEq, Sl.val.injEq, Option.some.injEq, exists_eq_left', exists_eq_left, exists_eq', exists_eq, or_true, true_or, or_false, false_or, CMul, CPow, natAbs_10, natAbs_2, Int.cast_ofNat_Int, Nat.reducePow, exists_and_left, exists_const, and_assoc, true_and, and_true, and_self, false_and, and_false, if_true, if_false, ite_true, ite_false, reduceCtorEq, decide_true, decide_false, decide_eq_true_eq, decide_eq_false_iff_not, Bool.not_true, Bool.not_false, Bool.false_eq_true, List.replicate_zero, List.replicate_succ, List.map_cons, List.map_nil, List.nil_append, List.cons_append, Nat.reduceSub, Nat.reduceAdd, Nat.reduceLeDiff, Nat.reduceLT, Int.reduceLT, Int.reduceLE, Int.reduceAdd, Int.reduceSub, Int.reduceMul, Int.reduceNeg, Int.reduceMod, Int.reduceDiv, Int.reducePow, Int.reduceToNat, okD_int, okD_bl, okD_lst, okD_tup, okD_non, okL_nil, okL_cons, okD_str, okL_int, eqD_int, eqD_bl, eqD_str, eqD_tup, eqD_lst, eqL_cons, eqL_nil, eqL_cn, eqL_nc, eqL_int, Bool.and_eq_true, Bool.or_eq_true, Bool.not_eq_true', Bool.and_false, Bool.false_and, Bool.or_false, Bool.false_or, Bool.or_true, Bool.true_or, Bool.and_true, Bool.true_and, Bool.and_self, wIsT2, wDct0, wLstOf, wRepF, wAsgH, DV.hN, hIx, hCons, hNil, hTup, wLM, gCnt, gIdx, gList, gSorted, wDctO, wPar3, wAppPop, wRaise0, wRaise1, wTry, wIsE, wAct, wFl, flD, gAnyX, gSumX, wCatF, wSSet, wLstR1, wLstR2, wTupR1, wFld, eqD_bl, List.all_cons, List.all_nil, List.countP_cons, List.countP_nil, List.findIdx?_cons]
  unfold B__law_said_7
  simp only [wSeq, wAsg, wOwn, wF, wLc, wSkip, wBrk, wCnt, wRet, wRetF, wRetN, wDrop, wIfS, wPar, wFor, wWh, wV, wApp, wExt, wSetIx, wAug, wVal, wLook, wC, wOp, wTst, wChain, wAnd, wOr, wNot, wAndV, wOrV, wNotV, wIf, wNil, wCons, wTup, wLst, wCall, wCB, wIsT, wiR1, wiR2, wiSq, wiEn, wiZip, gN, gT1, gT2, gT3, gT4, gT5, gT6, gT7, wYes, gAdd, DV.gSub, gMul, gMod, gDiv, gPow, gLt, gLe, gGt, gGe, gCmp, gEq, gNe, gIs, gIsN, DV.isNon, gIn, gNotIn, gIx, gSlc, wSlc, wNoP, wPart, gLen, gAbs, gInt, gMin2, gMax2, gAll, gAny, gSum, gTuple, wNeg, wRev, wRevX, itemsOf, D.isTy, D.isHand, Sl.toD, big_0, big_1, big_2, big_3, big_4, big_5, big_6, big_7, big_8, big_9, big_10, big_11, big_12, draw_iff, own_ex, val_ex, wipeE, restE, Sl.keep, Option.getD_some, get_z, get_s, set_z, set_s, List.length_cons, List.length_nil, atI_0, atI_1, atI_2, atI_3, atI_4, ixN_5_0, ixN_5_1, ixN_5_2, ixN_5_3, ixN_5_4, D.bl.injEq, D.int.injEq, D.lst.injEq, D.tup.injEq, D.str.injEq, Sl.own.injEq, Sl.val.injEq, Option.some.injEq, exists_eq_left', exists_eq_left, exists_eq', exists_eq, or_true, true_or, or_false, false_or, CMul, CPow, natAbs_10, natAbs_2, Int.cast_ofNat_Int, Nat.reducePow, exists_and_left, exists_const, and_assoc, true_and, and_true, and_self, false_and, and_false, if_true, if_false, ite_true, ite_false, reduceCtorEq, decide_true, decide_false, decide_eq_true_eq, decide_eq_false_iff_not, Bool.not_true, Bool.not_false, Bool.false_eq_true, List.replicate_zero, List.replicate_succ, List.map_cons, List.map_nil, List.nil_append, List.cons_append, Nat.reduceSub, Nat.reduceAdd, Nat.reduceLeDiff, Nat.reduceLT, Int.reduceLT, Int.reduceLE, Int.reduceAdd, Int.reduceSub, Int.reduceMul, Int.reduceNeg, Int.reduceMod, Int.reduceDiv, Int.reducePow, Int.reduceToNat, okD_int, okD_bl, okD_lst, okD_tup, okD_non, okL_nil, okL_cons, okD_str, okL_int, eqD_int, eqD_bl, eqD_str, eqD_tup, eqD_lst, eqL_cons, eqL_nil, eqL_cn, eqL_nc, eqL_int, Bool.and_eq_true, Bool.or_eq_true, Bool.not_eq_true', Bool.and_false, Bool.false_and, Bool.or_false, Bool.false_or, Bool.or_true, Bool.true_or, Bool.and_true, Bool.true_and, Bool.and_self, wIsT2, wDct0, wLstOf, wRepF, wAsgH, DV.hN, hIx, hCons, hNil, hTup, wLM, gCnt, gIdx, gList, gSorted, wDctO, wPar3, wAppPop, wRaise0, wRaise1, wTry, wIsE, wAct, wFl, flD, gAnyX, gSumX, wCatF, wSSet, wLstR1, wLstR2, wTupR1, wFld, eqD_bl, List.all_cons, List.all_nil, List.countP_cons, List.countP_nil, List.findIdx?_cons]
  first | exact hq | exact fun _ => hq | exact fun _ _ => hq
end Law

set_option Elab.async false
set_option linter.all false
set_option maxRecDepth 100000
namespace Law
open PySem PySem.Spec PyProof.Rows L2 DV
theorem any_seq (i j : Nat) {L : DV.TmL} {T2 : Ts} {env : DV.Env} {P : Post} {xs : List D} (h0 : env[j]? = some (.val .hand)) (hL : ∀ (Q : List D → DV.Env → Prop) (E : Ex), Q xs env → L env Q E) (h1 : 0 < xs.length) (h2 : xs.length ≤ 1000) (hq : ∀ x ∈ xs, T2 (env.set i (.val x)) P) :
    wSeq (wAsg (wCall 2 T__law_any (wCons (wVal j) (wCons (wF (wLst L)) wNil))) (gN i)) T2 env P := by
  simp only [wSeq, wAsg, wOwn, wF, wLc, wSkip, wBrk, wCnt, wRet, wRetF, wRetN, wDrop, wIfS, wPar, wFor, wWh, wV, wApp, wExt, wSetIx, wAug, wVal, wLook, wC, wOp, wTst, wChain, wAnd, wOr, wNot, wAndV, wOrV, wNotV, wIf, wNil, wCons, wTup, wLst, wCall, wCB, wIsT, wiR1, wiR2, wiSq, wiEn, wiZip, gN, gT1, gT2, gT3, gT4, gT5, gT6, gT7, wYes, gAdd, DV.gSub, gMul, gMod, gDiv, gPow, gLt, gLe, gGt, gGe, gCmp, gEq, gNe, gIs, gIsN, DV.isNon, gIn, gNotIn, gIx, gSlc, wSlc, wNoP, wPart, gLen, gAbs, gInt, gMin2, gMax2, gAll, gAny, gSum, gTuple, wNeg, wRev, wRevX, itemsOf, D.isTy, D.isHand, Sl.toD, big_0, big_1, big_2, big_3, big_4, big_5, big_6, big_7, big_8, big_9, big_10, big_11, big_12, draw_iff, own_ex, val_ex, wipeE, restE, Sl.keep, Option.getD_some, get_z, get_s, set_z, set_s, List.length_cons, List.length_nil, atI_0, atI_1, atI_2, atI_3, atI_4, ixN_5_0, ixN_5_1, ixN_5_2, ixN_5_3, ixN_5_4, D.bl.injEq, D.int.injEq, D.lst.injEq, D.tup.injEq, D.str.injEq, Sl.own.injEq, Sl.val.injEq, Option.some.injEq, exists_eq_left', exists_eq_left, exists_eq', exists_eq, or_true, true_or, or_false, false_or, CMul, CPow, natAbs_10, natAbs_2, Int.cast_ofNat_Int, Nat.reducePow, exists_and_left, exists_const, and_assoc, true_and, and_true, and_self, false_and, and_false, if_true, if_false, ite_true, ite_false, reduceCtorEq, decide_true, decide_false, decide_eq_true_eq, decide_eq_false_iff_not, Bool.not_true, Bool.not_false, Bool.false_eq_true, List.replicate_zero, List.replicate_succ, List.map_cons, List.map_nil, List.nil_append, List.cons_append, Nat.reduceSub, Nat.reduceAdd, Nat.reduceLeDiff, Nat.reduceLT, Int.reduceLT, Int.reduceLE, Int.reduceAdd, Int.reduceSub, Int.reduceMul, Int.reduceNeg, Int.reduceMod, Int.reduceDiv, Int.reducePow, Int.reduceToNat, okD_int, okD_bl, okD_lst, okD_tup, okD_non, okL_nil, okL_cons, okD_str, okL_int, eqD_int, eqD_bl, eqD_str, eqD_tup, eqD_lst, eqL_cons, eqL_nil, eqL_cn, eqL_nc, eqL_int, Bool.and_eq_true, Bool.or_eq_true, Bool.not_eq_true', Bool.and_false, Bool.false_and, Bool.or_false, Bool.false_or, Bool.or_true, Bool.true_or, Bool.and_true, Bool.true_and, Bool.and_self, wIsT2, wDct0, wLstOf, wRepF, wAsgH, DV.hN, hIx, hCons, hNil, hTup, wLM, gCnt, gIdx, gList, gSorted, wDctO, wPar3, wAppPop, wRaise0, wRaise1, wTry, wIsE, wAct, wFl, flD, gAnyX, gSumX, wCatF, wSSet, wLstR1, wLstR2, wTupR1, wFld, h0]
  refine hL _ _ ⟨by unfold big; omega, fun _ => ?_⟩
  exact sp_any h1 (by omega) fun x hx => hq x hx
theorem for_seq {g : Tg} {B : Ts} {L : DV.TmL} {T2 : Ts} {env : DV.Env} {P : Post} {xs : List D} (hL : ∀ (Q : List D → DV.Env → Prop) (E : Ex), Q xs env → L env Q E) (h2 : xs.length ≤ 1000) (hq : forGo g B { P with nx := fun env1 => T2 env1 P } xs env) :
    wSeq (wFor (wiSq (wF (wLst L))) g B) T2 env P := by
  (try simp only [wSeq, wAsg, wOwn, wF, wLc, wSkip, wBrk, wCnt, wRet, wRetF, wRetN, wDrop, wIfS, wPar, wFor, wWh, wV, wApp, wExt, wSetIx, wAug, wVal, wLook, wC, wOp, wTst, wChain, wAnd, wOr, wNot, wAndV, wOrV, wNotV, wIf, wNil, wCons, wTup, wLst, wCall, wCB, wIsT, wiR1, wiR2, wiSq, wiEn, wiZip, gN, gT1, gT2, gT3, gT4, gT5, gT6, gT7, wYes, gAdd, DV.gSub, gMul, gMod, gDiv, gPow, gLt, gLe, gGt, gGe, gCmp, gEq, gNe, gIs, gIsN, DV.isNon, gIn, gNotIn, gIx, gSlc, wSlc, wNoP, wPart, gLen, gAbs, gInt, gMin2, gMax2, gAll, gAny, gSum, gTuple, wNeg, wRev, wRevX, itemsOf, D.isTy, D.isHand, Sl.toD, big_0, big_1, big_2, big_3, big_4, big_5, big_6, big_7, big_8, big_9, big_10, big_11, big_12, draw_iff, own_ex, val_ex, wipeE, restE, Sl.keep, Option.getD_some, get_z, get_s, set_z, set_s, List.length_cons, List.length_nil, atI_0, atI_1, atI_2, atI_3, atI_4, ixN_5_0, ixN_5_1, ixN_5_2, ixN_5_3, ixN_5_4, D.bl.injEq, D.int.injEq, D.lst.injEq, D.tup.injEq, D.str.injEq, Sl.own.injEq, Sl.val.injEq, Option.some.injEq, exists_eq_left', exists_eq_left, exists_eq', exists_eq, or_true, true_or, or_false, false_or, CMul, CPow, natAbs_10, natAbs_2, Int.cast_ofNat_Int, Nat.reducePow, exists_and_left, exists_const, and_assoc, true_and, and_true, and_self, false_and, and_false, if_true, if_false, ite_true, ite_false, reduceCtorEq, decide_true, decide_false, decide_eq_true_eq, decide_eq_false_iff_not, Bool.not_true, Bool.not_false, Bool.false_eq_true, List.replicate_zero, List.replicate_succ, List.map_cons, List.map_nil, List.nil_append, List.cons_append, Nat.reduceSub, Nat.reduceAdd, Nat.reduceLeDiff, Nat.reduceLT, Int.reduceLT, Int.reduceLE, Int.reduceAdd, Int.reduceSub, Int.reduceMul, Int.reduceNeg, Int.reduceMod, Int.reduceDiv, Int.reducePow, Int.reduceToNat, okD_int, okD_bl, okD_lst, okD_tup, okD_non, okL_nil, okL_cons, okD_str, okL_int, eqD_int, eqD_bl, eqD_str, eqD_tup, eqD_lst, eqL_cons, eqL_nil, eqL_cn, eqL_nc, eqL_int, Bool.and_eq_true, Bool.or_eq_true, Bool.not_eq_true', Bool.and_false, Bool.false_and, Bool.or_false, Bool.false_or, Bool.or_true, Bool.true_or, Bool.and_true, Bool.true_and, Bool.and_self, wIsT2, wDct0, wLstOf, wRepF, wAsgH, DV.hN, hIx, hCons, hNil, hTup, wLM, gCnt, gIdx, gList, gSorted, wDctO, wPar3, wAppPop, wRaise0, wRaise1, wTry, wIsE, wAct, wFl, flD, gAnyX, gSumX, wCatF, wSSet, wLstR1, wLstR2, wTupR1, wFld])
  refine hL _ _ ⟨by unfold big; omega, fun _ => ?_⟩
  exact hq

/-- no word of s signs -/
def Bad (s : Int) (d : D) : Prop := Fig d ∧ wordD s d = false
theorem bad_nt {s : Int} {d : D} (h : plain1 d = true) (h2 : ∀ xs, d ≠ .tup xs) : Bad s d := ⟨.nt h h2, by
  unfold wordD
  cases d <;> first | rfl | exact absurd rfl (h2 _)⟩
theorem bad_1 {s : Int} {x : D} (h : x.isHand = false) (hw : within x 0 (s - 1) = false) : Bad s (.tup [x]) := ⟨.one h, by
  have e : belowD s (.tup [x]) = false := by
    show ([x].all fun x => within x 0 (s - 1)) = false
    rw [List.all_cons, hw]; rfl
  unfold wordD
  rw [e, Bool.and_false]⟩
/-- 25 noughts -/
def Z25 : List D := (List.replicate 25 [D.int 0]).flatten
theorem z25 : (List.replicate 25 [D.int 0]).flatten = Z25 := rfl
theorem z25_len : Z25.length = 25 := by decide +kernel
theorem bad_25 {s : Int} : Bad s (.tup Z25) := by
  have e : Z25 = (List.replicate 25 (0 : Int)).map D.int := by unfold Z25; rfl
  refine ⟨by rw [e]; exact Fig.ints (by decide), ?_⟩
  have z : szD 0 24 (.tup Z25) = false := by
    show (decide (0 ≤ (Z25.length : Int)) && decide ((Z25.length : Int) ≤ 24)) = false
    rw [z25_len]; rfl
  unfold wordD
  rw [z]; rfl
theorem bad_s {s : Int} : Bad s (.tup [.int s]) := bad_1 rfl (by
  show (decide (0 ≤ s) && decide (s ≤ s - 1)) = false
  rw [decide_eq_false (show ¬ s ≤ s - 1 by omega), Bool.and_false])
theorem bad_m {s : Int} : Bad s (.tup [.int (-1)]) := bad_1 rfl rfl
theorem bad_t {s : Int} : Bad s (.tup [.bl true]) := bad_1 rfl rfl
theorem bad_n {s : Int} : Bad s (.tup [.non]) := bad_1 rfl rfl
section
variable {s m : Int} {R : List (List (List Int))}
theorem law_6 (o : SchOk s m R) {x2 x5 x6 x7 x8 x9 x10 : Sl} {P : Post} (h : ∀ (w : List Int) (x7 : Sl), Wd s w → P.nx [.no, .val .hand, x2, .val (dSch s m R), .val (.int s), x5, .val (.tup (w.map D.int)), x7, x8, x9, x10, .no]) :
    B_law_6 [.no, .val .hand, x2, .val (dSch s m R), .val (.int s), x5, x6, x7, x8, x9, x10, .no] P := by
  unfold B_law_6
  (try simp only [wSeq, wAsg, wOwn, wF, wLc, wSkip, wBrk, wCnt, wRet, wRetF, wRetN, wDrop, wIfS, wPar, wFor, wWh, wV, wApp, wExt, wSetIx, wAug, wVal, wLook, wC, wOp, wTst, wChain, wAnd, wOr, wNot, wAndV, wOrV, wNotV, wIf, wNil, wCons, wTup, wLst, wCall, wCB, wIsT, wiR1, wiR2, wiSq, wiEn, wiZip, gN, gT1, gT2, gT3, gT4, gT5, gT6, gT7, wYes, gAdd, DV.gSub, gMul, gMod, gDiv, gPow, gLt, gLe, gGt, gGe, gCmp, gEq, gNe, gIs, gIsN, DV.isNon, gIn, gNotIn, gIx, gSlc, wSlc, wNoP, wPart, gLen, gAbs, gInt, gMin2, gMax2, gAll, gAny, gSum, gTuple, wNeg, wRev, wRevX, itemsOf, D.isTy, D.isHand, Sl.toD, big_0, big_1, big_2, big_3, big_4, big_5, big_6, big_7, big_8, big_9, big_10, big_11, big_12, draw_iff, own_ex, val_ex, wipeE, restE, Sl.keep, Option.getD_some, get_z, get_s, set_z, set_s, List.length_cons, List.length_nil, atI_0, atI_1, atI_2, atI_3, atI_4, ixN_5_0, ixN_5_1, ixN_5_2, ixN_5_3, ixN_5_4, D.bl.injEq, D.int.injEq, D.lst.injEq, D.tup.injEq, D.str.injEq, Sl.own.injEq, Sl.val.injEq, Option.some.injEq, exists_eq_left', exists_eq_left, exists_eq', exists_eq, or_true, true_or, or_false, false_or, CMul, CPow, natAbs_10, natAbs_2, Int.cast_ofNat_Int, Nat.reducePow, exists_and_left, exists_const, and_assoc, true_and, and_true, and_self, false_and, and_false, if_true, if_false, ite_true, ite_false, reduceCtorEq, decide_true, decide_false, decide_eq_true_eq, decide_eq_false_iff_not, Bool.not_true, Bool.not_false, Bool.false_eq_true, List.replicate_zero, List.replicate_succ, List.map_cons, List.map_nil, List.nil_append, List.cons_append, Nat.reduceSub, Nat.reduceAdd, Nat.reduceLeDiff, Nat.reduceLT, Int.reduceLT, Int.reduceLE, Int.reduceAdd, Int.reduceSub, Int.reduceMul, Int.reduceNeg, Int.reduceMod, Int.reduceDiv, Int.reducePow, Int.reduceToNat, okD_int, okD_bl, okD_lst, okD_tup, okD_non, okL_nil, okL_cons, okD_str, okL_int, eqD_int, eqD_bl, eqD_str, eqD_tup, eqD_lst, eqL_cons, eqL_nil, eqL_cn, eqL_nc, eqL_int, Bool.and_eq_true, Bool.or_eq_true, Bool.not_eq_true', Bool.and_false, Bool.false_and, Bool.or_false, Bool.false_or, Bool.or_true, Bool.true_or, Bool.and_true, Bool.true_and, Bool.and_self, wIsT2, wDct0, wLstOf, wRepF, wAsgH, DV.hN, hIx, hCons, hNil, hTup, wLM, gCnt, gIdx, gList, gSorted, wDctO, wPar3, wAppPop, wRaise0, wRaise1, wTry, wIsE, wAct, wFl, flD, gAnyX, gSumX, wCatF, wSSet, wLstR1, wLstR2, wTupR1, wFld])
  intro _
  refine sp_any (by decide) (by decide) fun x hx => ?_
  obtain ⟨n, rfl, n0, n1⟩ : ∃ n : Int, x = .int n ∧ 0 ≤ n ∧ n ≤ 24 := by
    simp only [List.mem_cons, List.not_mem_nil, or_false] at hx
    rcases hx with rfl | rfl | rfl <;> exact ⟨_, rfl, by decide, by decide⟩
  (try simp only [wSeq, wAsg, wOwn, wF, wLc, wSkip, wBrk, wCnt, wRet, wRetF, wRetN, wDrop, wIfS, wPar, wFor, wWh, wV, wApp, wExt, wSetIx, wAug, wVal, wLook, wC, wOp, wTst, wChain, wAnd, wOr, wNot, wAndV, wOrV, wNotV, wIf, wNil, wCons, wTup, wLst, wCall, wCB, wIsT, wiR1, wiR2, wiSq, wiEn, wiZip, gN, gT1, gT2, gT3, gT4, gT5, gT6, gT7, wYes, gAdd, DV.gSub, gMul, gMod, gDiv, gPow, gLt, gLe, gGt, gGe, gCmp, gEq, gNe, gIs, gIsN, DV.isNon, gIn, gNotIn, gIx, gSlc, wSlc, wNoP, wPart, gLen, gAbs, gInt, gMin2, gMax2, gAll, gAny, gSum, gTuple, wNeg, wRev, wRevX, itemsOf, D.isTy, D.isHand, Sl.toD, big_0, big_1, big_2, big_3, big_4, big_5, big_6, big_7, big_8, big_9, big_10, big_11, big_12, draw_iff, own_ex, val_ex, wipeE, restE, Sl.keep, Option.getD_some, get_z, get_s, set_z, set_s, List.length_cons, List.length_nil, atI_0, atI_1, atI_2, atI_3, atI_4, ixN_5_0, ixN_5_1, ixN_5_2, ixN_5_3, ixN_5_4, D.bl.injEq, D.int.injEq, D.lst.injEq, D.tup.injEq, D.str.injEq, Sl.own.injEq, Sl.val.injEq, Option.some.injEq, exists_eq_left', exists_eq_left, exists_eq', exists_eq, or_true, true_or, or_false, false_or, CMul, CPow, natAbs_10, natAbs_2, Int.cast_ofNat_Int, Nat.reducePow, exists_and_left, exists_const, and_assoc, true_and, and_true, and_self, false_and, and_false, if_true, if_false, ite_true, ite_false, reduceCtorEq, decide_true, decide_false, decide_eq_true_eq, decide_eq_false_iff_not, Bool.not_true, Bool.not_false, Bool.false_eq_true, List.replicate_zero, List.replicate_succ, List.map_cons, List.map_nil, List.nil_append, List.cons_append, Nat.reduceSub, Nat.reduceAdd, Nat.reduceLeDiff, Nat.reduceLT, Int.reduceLT, Int.reduceLE, Int.reduceAdd, Int.reduceSub, Int.reduceMul, Int.reduceNeg, Int.reduceMod, Int.reduceDiv, Int.reducePow, Int.reduceToNat, okD_int, okD_bl, okD_lst, okD_tup, okD_non, okL_nil, okL_cons, okD_str, okL_int, eqD_int, eqD_bl, eqD_str, eqD_tup, eqD_lst, eqL_cons, eqL_nil, eqL_cn, eqL_nc, eqL_int, Bool.and_eq_true, Bool.or_eq_true, Bool.not_eq_true', Bool.and_false, Bool.false_and, Bool.or_false, Bool.false_or, Bool.or_true, Bool.true_or, Bool.and_true, Bool.true_and, Bool.and_self, wIsT2, wDct0, wLstOf, wRepF, wAsgH, DV.hN, hIx, hCons, hNil, hTup, wLM, gCnt, gIdx, gList, gSorted, wDctO, wPar3, wAppPop, wRaise0, wRaise1, wTry, wIsE, wAct, wFl, flD, gAnyX, gSumX, wCatF, wSSet, wLstR1, wLstR2, wTupR1, wFld])
  refine sp_law_word o.s1 o.s2 n0 n1 fun w hl hw => ?_
  have hW : Wd s w := ⟨by omega, hw⟩
  (try simp only [wSeq, wAsg, wOwn, wF, wLc, wSkip, wBrk, wCnt, wRet, wRetF, wRetN, wDrop, wIfS, wPar, wFor, wWh, wV, wApp, wExt, wSetIx, wAug, wVal, wLook, wC, wOp, wTst, wChain, wAnd, wOr, wNot, wAndV, wOrV, wNotV, wIf, wNil, wCons, wTup, wLst, wCall, wCB, wIsT, wiR1, wiR2, wiSq, wiEn, wiZip, gN, gT1, gT2, gT3, gT4, gT5, gT6, gT7, wYes, gAdd, DV.gSub, gMul, gMod, gDiv, gPow, gLt, gLe, gGt, gGe, gCmp, gEq, gNe, gIs, gIsN, DV.isNon, gIn, gNotIn, gIx, gSlc, wSlc, wNoP, wPart, gLen, gAbs, gInt, gMin2, gMax2, gAll, gAny, gSum, gTuple, wNeg, wRev, wRevX, itemsOf, D.isTy, D.isHand, Sl.toD, big_0, big_1, big_2, big_3, big_4, big_5, big_6, big_7, big_8, big_9, big_10, big_11, big_12, draw_iff, own_ex, val_ex, wipeE, restE, Sl.keep, Option.getD_some, get_z, get_s, set_z, set_s, List.length_cons, List.length_nil, atI_0, atI_1, atI_2, atI_3, atI_4, ixN_5_0, ixN_5_1, ixN_5_2, ixN_5_3, ixN_5_4, D.bl.injEq, D.int.injEq, D.lst.injEq, D.tup.injEq, D.str.injEq, Sl.own.injEq, Sl.val.injEq, Option.some.injEq, exists_eq_left', exists_eq_left, exists_eq', exists_eq, or_true, true_or, or_false, false_or, CMul, CPow, natAbs_10, natAbs_2, Int.cast_ofNat_Int, Nat.reducePow, exists_and_left, exists_const, and_assoc, true_and, and_true, and_self, false_and, and_false, if_true, if_false, ite_true, ite_false, reduceCtorEq, decide_true, decide_false, decide_eq_true_eq, decide_eq_false_iff_not, Bool.not_true, Bool.not_false, Bool.false_eq_true, List.replicate_zero, List.replicate_succ, List.map_cons, List.map_nil, List.nil_append, List.cons_append, Nat.reduceSub, Nat.reduceAdd, Nat.reduceLeDiff, Nat.reduceLT, Int.reduceLT, Int.reduceLE, Int.reduceAdd, Int.reduceSub, Int.reduceMul, Int.reduceNeg, Int.reduceMod, Int.reduceDiv, Int.reducePow, Int.reduceToNat, okD_int, okD_bl, okD_lst, okD_tup, okD_non, okL_nil, okL_cons, okD_str, okL_int, eqD_int, eqD_bl, eqD_str, eqD_tup, eqD_lst, eqL_cons, eqL_nil, eqL_cn, eqL_nc, eqL_int, Bool.and_eq_true, Bool.or_eq_true, Bool.not_eq_true', Bool.and_false, Bool.false_and, Bool.or_false, Bool.false_or, Bool.or_true, Bool.true_or, Bool.and_true, Bool.true_and, Bool.and_self, wIsT2, wDct0, wLstOf, wRepF, wAsgH, DV.hN, hIx, hCons, hNil, hTup, wLM, gCnt, gIdx, gList, gSorted, wDctO, wPar3, wAppPop, wRaise0, wRaise1, wTry, wIsE, wAct, wFl, flD, gAnyX, gSumX, wCatF, wSSet, wLstR1, wLstR2, wTupR1, wFld])
  unfold B_law_7
  simp only [wSeq, wAsg, wOwn, wF, wLc, wSkip, wBrk, wCnt, wRet, wRetF, wRetN, wDrop, wIfS, wPar, wFor, wWh, wV, wApp, wExt, wSetIx, wAug, wVal, wLook, wC, wOp, wTst, wChain, wAnd, wOr, wNot, wAndV, wOrV, wNotV, wIf, wNil, wCons, wTup, wLst, wCall, wCB, wIsT, wiR1, wiR2, wiSq, wiEn, wiZip, gN, gT1, gT2, gT3, gT4, gT5, gT6, gT7, wYes, gAdd, DV.gSub, gMul, gMod, gDiv, gPow, gLt, gLe, gGt, gGe, gCmp, gEq, gNe, gIs, gIsN, DV.isNon, gIn, gNotIn, gIx, gSlc, wSlc, wNoP, wPart, gLen, gAbs, gInt, gMin2, gMax2, gAll, gAny, gSum, gTuple, wNeg, wRev, wRevX, itemsOf, D.isTy, D.isHand, Sl.toD, big_0, big_1, big_2, big_3, big_4, big_5, big_6, big_7, big_8, big_9, big_10, big_11, big_12, draw_iff, own_ex, val_ex, wipeE, restE, Sl.keep, Option.getD_some, get_z, get_s, set_z, set_s, List.length_cons, List.length_nil, atI_0, atI_1, atI_2, atI_3, atI_4, ixN_5_0, ixN_5_1, ixN_5_2, ixN_5_3, ixN_5_4, D.bl.injEq, D.int.injEq, D.lst.injEq, D.tup.injEq, D.str.injEq, Sl.own.injEq, Sl.val.injEq, Option.some.injEq, exists_eq_left', exists_eq_left, exists_eq', exists_eq, or_true, true_or, or_false, false_or, CMul, CPow, natAbs_10, natAbs_2, Int.cast_ofNat_Int, Nat.reducePow, exists_and_left, exists_const, and_assoc, true_and, and_true, and_self, false_and, and_false, if_true, if_false, ite_true, ite_false, reduceCtorEq, decide_true, decide_false, decide_eq_true_eq, decide_eq_false_iff_not, Bool.not_true, Bool.not_false, Bool.false_eq_true, List.replicate_zero, List.replicate_succ, List.map_cons, List.map_nil, List.nil_append, List.cons_append, Nat.reduceSub, Nat.reduceAdd, Nat.reduceLeDiff, Nat.reduceLT, Int.reduceLT, Int.reduceLE, Int.reduceAdd, Int.reduceSub, Int.reduceMul, Int.reduceNeg, Int.reduceMod, Int.reduceDiv, Int.reducePow, Int.reduceToNat, okD_int, okD_bl, okD_lst, okD_tup, okD_non, okL_nil, okL_cons, okD_str, okL_int, eqD_int, eqD_bl, eqD_str, eqD_tup, eqD_lst, eqL_cons, eqL_nil, eqL_cn, eqL_nc, eqL_int, Bool.and_eq_true, Bool.or_eq_true, Bool.not_eq_true', Bool.and_false, Bool.false_and, Bool.or_false, Bool.false_or, Bool.or_true, Bool.true_or, Bool.and_true, Bool.true_and, Bool.and_self, wIsT2, wDct0, wLstOf, wRepF, wAsgH, DV.hN, hIx, hCons, hNil, hTup, wLM, gCnt, gIdx, gList, gSorted, wDctO, wPar3, wAppPop, wRaise0, wRaise1, wTry, wIsE, wAct, wFl, flD, gAnyX, gSumX, wCatF, wSSet, wLstR1, wLstR2, wTupR1, wFld, List.length_map, rangeD_len]
  refine ⟨by omega, by omega, by unfold big; omega, ?_⟩
  refine lc_map (runF R w) (fun x hx K' hk => ?_) ?_
  · obtain ⟨i, rfl, i1, i2⟩ := mem_range hx
    obtain ⟨n, rfl⟩ := Int.eq_ofNat_of_zero_le i1
    simp only [wSeq, wAsg, wOwn, wF, wLc, wSkip, wBrk, wCnt, wRet, wRetF, wRetN, wDrop, wIfS, wPar, wFor, wWh, wV, wApp, wExt, wSetIx, wAug, wVal, wLook, wC, wOp, wTst, wChain, wAnd, wOr, wNot, wAndV, wOrV, wNotV, wIf, wNil, wCons, wTup, wLst, wCall, wCB, wIsT, wiR1, wiR2, wiSq, wiEn, wiZip, gN, gT1, gT2, gT3, gT4, gT5, gT6, gT7, wYes, gAdd, DV.gSub, gMul, gMod, gDiv, gPow, gLt, gLe, gGt, gGe, gCmp, gEq, gNe, gIs, gIsN, DV.isNon, gIn, gNotIn, gIx, gSlc, wSlc, wNoP, wPart, gLen, gAbs, gInt, gMin2, gMax2, gAll, gAny, gSum, gTuple, wNeg, wRev, wRevX, itemsOf, D.isTy, D.isHand, Sl.toD, big_0, big_1, big_2, big_3, big_4, big_5, big_6, big_7, big_8, big_9, big_10, big_11, big_12, draw_iff, own_ex, val_ex, wipeE, restE, Sl.keep, Option.getD_some, get_z, get_s, set_z, set_s, List.length_cons, List.length_nil, atI_0, atI_1, atI_2, atI_3, atI_4, ixN_5_0, ixN_5_1, ixN_5_2, ixN_5_3, ixN_5_4, D.bl.injEq, D.int.injEq, D.lst.injEq, D.tup.injEq, D.str.injEq, Sl.own.injEq, Sl.val.injEq, Option.some.injEq, exists_eq_left', exists_eq_left, exists_eq', exists_eq, or_true, true_or, or_false, false_or, CMul, CPow, natAbs_10, natAbs_2, Int.cast_ofNat_Int, Nat.reducePow, exists_and_left, exists_const, and_assoc, true_and, and_true, and_self, false_and, and_false, if_true, if_false, ite_true, ite_false, reduceCtorEq, decide_true, decide_false, decide_eq_true_eq, decide_eq_false_iff_not, Bool.not_true, Bool.not_false, Bool.false_eq_true, List.replicate_zero, List.replicate_succ, List.map_cons, List.map_nil, List.nil_append, List.cons_append, Nat.reduceSub, Nat.reduceAdd, Nat.reduceLeDiff, Nat.reduceLT, Int.reduceLT, Int.reduceLE, Int.reduceAdd, Int.reduceSub, Int.reduceMul, Int.reduceNeg, Int.reduceMod, Int.reduceDiv, Int.reducePow, Int.reduceToNat, okD_int, okD_bl, okD_lst, okD_tup, okD_non, okL_nil, okL_cons, okD_str, okL_int, eqD_int, eqD_bl, eqD_str, eqD_tup, eqD_lst, eqL_cons, eqL_nil, eqL_cn, eqL_nc, eqL_int, Bool.and_eq_true, Bool.or_eq_true, Bool.not_eq_true', Bool.and_false, Bool.false_and, Bool.or_false, Bool.false_or, Bool.or_true, Bool.true_or, Bool.and_true, Bool.true_and, Bool.and_self, wIsT2, wDct0, wLstOf, wRepF, wAsgH, DV.hN, hIx, hCons, hNil, hTup, wLM, gCnt, gIdx, gList, gSorted, wDctO, wPar3, wAppPop, wRaise0, wRaise1, wTry, wIsE, wAct, wFl, flD, gAnyX, gSumX, wCatF, wSSet, wLstR1, wLstR2, wTupR1, wFld, take_map]
    refine sp_law_state o (fun x hx => hw x (List.mem_of_mem_take hx)) (by rw [List.length_take]; omega) ?_
    exact hk
  · rw [runs_D, List.nil_append]
    (try simp only [wSeq, wAsg, wOwn, wF, wLc, wSkip, wBrk, wCnt, wRet, wRetF, wRetN, wDrop, wIfS, wPar, wFor, wWh, wV, wApp, wExt, wSetIx, wAug, wVal, wLook, wC, wOp, wTst, wChain, wAnd, wOr, wNot, wAndV, wOrV, wNotV, wIf, wNil, wCons, wTup, wLst, wCall, wCB, wIsT, wiR1, wiR2, wiSq, wiEn, wiZip, gN, gT1, gT2, gT3, gT4, gT5, gT6, gT7, wYes, gAdd, DV.gSub, gMul, gMod, gDiv, gPow, gLt, gLe, gGt, gGe, gCmp, gEq, gNe, gIs, gIsN, DV.isNon, gIn, gNotIn, gIx, gSlc, wSlc, wNoP, wPart, gLen, gAbs, gInt, gMin2, gMax2, gAll, gAny, gSum, gTuple, wNeg, wRev, wRevX, itemsOf, D.isTy, D.isHand, Sl.toD, big_0, big_1, big_2, big_3, big_4, big_5, big_6, big_7, big_8, big_9, big_10, big_11, big_12, draw_iff, own_ex, val_ex, wipeE, restE, Sl.keep, Option.getD_some, get_z, get_s, set_z, set_s, List.length_cons, List.length_nil, atI_0, atI_1, atI_2, atI_3, atI_4, ixN_5_0, ixN_5_1, ixN_5_2, ixN_5_3, ixN_5_4, D.bl.injEq, D.int.injEq, D.lst.injEq, D.tup.injEq, D.str.injEq, Sl.own.injEq, Sl.val.injEq, Option.some.injEq, exists_eq_left', exists_eq_left, exists_eq', exists_eq, or_true, true_or, or_false, false_or, CMul, CPow, natAbs_10, natAbs_2, Int.cast_ofNat_Int, Nat.reducePow, exists_and_left, exists_const, and_assoc, true_and, and_true, and_self, false_and, and_false, if_true, if_false, ite_true, ite_false, reduceCtorEq, decide_true, decide_false, decide_eq_true_eq, decide_eq_false_iff_not, Bool.not_true, Bool.not_false, Bool.false_eq_true, List.replicate_zero, List.replicate_succ, List.map_cons, List.map_nil, List.nil_append, List.cons_append, Nat.reduceSub, Nat.reduceAdd, Nat.reduceLeDiff, Nat.reduceLT, Int.reduceLT, Int.reduceLE, Int.reduceAdd, Int.reduceSub, Int.reduceMul, Int.reduceNeg, Int.reduceMod, Int.reduceDiv, Int.reducePow, Int.reduceToNat, okD_int, okD_bl, okD_lst, okD_tup, okD_non, okL_nil, okL_cons, okD_str, okL_int, eqD_int, eqD_bl, eqD_str, eqD_tup, eqD_lst, eqL_cons, eqL_nil, eqL_cn, eqL_nc, eqL_int, Bool.and_eq_true, Bool.or_eq_true, Bool.not_eq_true', Bool.and_false, Bool.false_and, Bool.or_false, Bool.false_or, Bool.or_true, Bool.true_or, Bool.and_true, Bool.true_and, Bool.and_self, wIsT2, wDct0, wLstOf, wRepF, wAsgH, DV.hN, hIx, hCons, hNil, hTup, wLM, gCnt, gIdx, gList, gSorted, wDctO, wPar3, wAppPop, wRaise0, wRaise1, wTry, wIsE, wAct, wFl, flD, gAnyX, gSumX, wCatF, wSSet, wLstR1, wLstR2, wTupR1, wFld])
    intro _
    unfold B_law_8
    (try simp only [wSeq, wAsg, wOwn, wF, wLc, wSkip, wBrk, wCnt, wRet, wRetF, wRetN, wDrop, wIfS, wPar, wFor, wWh, wV, wApp, wExt, wSetIx, wAug, wVal, wLook, wC, wOp, wTst, wChain, wAnd, wOr, wNot, wAndV, wOrV, wNotV, wIf, wNil, wCons, wTup, wLst, wCall, wCB, wIsT, wiR1, wiR2, wiSq, wiEn, wiZip, gN, gT1, gT2, gT3, gT4, gT5, gT6, gT7, wYes, gAdd, DV.gSub, gMul, gMod, gDiv, gPow, gLt, gLe, gGt, gGe, gCmp, gEq, gNe, gIs, gIsN, DV.isNon, gIn, gNotIn, gIx, gSlc, wSlc, wNoP, wPart, gLen, gAbs, gInt, gMin2, gMax2, gAll, gAny, gSum, gTuple, wNeg, wRev, wRevX, itemsOf, D.isTy, D.isHand, Sl.toD, big_0, big_1, big_2, big_3, big_4, big_5, big_6, big_7, big_8, big_9, big_10, big_11, big_12, draw_iff, own_ex, val_ex, wipeE, restE, Sl.keep, Option.getD_some, get_z, get_s, set_z, set_s, List.length_cons, List.length_nil, atI_0, atI_1, atI_2, atI_3, atI_4, ixN_5_0, ixN_5_1, ixN_5_2, ixN_5_3, ixN_5_4, D.bl.injEq, D.int.injEq, D.lst.injEq, D.tup.injEq, D.str.injEq, Sl.own.injEq, Sl.val.injEq, Option.some.injEq, exists_eq_left', exists_eq_left, exists_eq', exists_eq, or_true, true_or, or_false, false_or, CMul, CPow, natAbs_10, natAbs_2, Int.cast_ofNat_Int, Nat.reducePow, exists_and_left, exists_const, and_assoc, true_and, and_true, and_self, false_and, and_false, if_true, if_false, ite_true, ite_false, reduceCtorEq, decide_true, decide_false, decide_eq_true_eq, decide_eq_false_iff_not, Bool.not_true, Bool.not_false, Bool.false_eq_true, List.replicate_zero, List.replicate_succ, List.map_cons, List.map_nil, List.nil_append, List.cons_append, Nat.reduceSub, Nat.reduceAdd, Nat.reduceLeDiff, Nat.reduceLT, Int.reduceLT, Int.reduceLE, Int.reduceAdd, Int.reduceSub, Int.reduceMul, Int.reduceNeg, Int.reduceMod, Int.reduceDiv, Int.reducePow, Int.reduceToNat, okD_int, okD_bl, okD_lst, okD_tup, okD_non, okL_nil, okL_cons, okD_str, okL_int, eqD_int, eqD_bl, eqD_str, eqD_tup, eqD_lst, eqL_cons, eqL_nil, eqL_cn, eqL_nc, eqL_int, Bool.and_eq_true, Bool.or_eq_true, Bool.not_eq_true', Bool.and_false, Bool.false_and, Bool.or_false, Bool.false_or, Bool.or_true, Bool.true_or, Bool.and_true, Bool.true_and, Bool.and_self, wIsT2, wDct0, wLstOf, wRepF, wAsgH, DV.hN, hIx, hCons, hNil, hTup, wLM, gCnt, gIdx, gList, gSorted, wDctO, wPar3, wAppPop, wRaise0, wRaise1, wTry, wIsE, wAct, wFl, flD, gAnyX, gSumX, wCatF, wSSet, wLstR1, wLstR2, wTupR1, wFld])
    refine sp_read_on o hW ?_
    (try simp only [wSeq, wAsg, wOwn, wF, wLc, wSkip, wBrk, wCnt, wRet, wRetF, wRetN, wDrop, wIfS, wPar, wFor, wWh, wV, wApp, wExt, wSetIx, wAug, wVal, wLook, wC, wOp, wTst, wChain, wAnd, wOr, wNot, wAndV, wOrV, wNotV, wIf, wNil, wCons, wTup, wLst, wCall, wCB, wIsT, wiR1, wiR2, wiSq, wiEn, wiZip, gN, gT1, gT2, gT3, gT4, gT5, gT6, gT7, wYes, gAdd, DV.gSub, gMul, gMod, gDiv, gPow, gLt, gLe, gGt, gGe, gCmp, gEq, gNe, gIs, gIsN, DV.isNon, gIn, gNotIn, gIx, gSlc, wSlc, wNoP, wPart, gLen, gAbs, gInt, gMin2, gMax2, gAll, gAny, gSum, gTuple, wNeg, wRev, wRevX, itemsOf, D.isTy, D.isHand, Sl.toD, big_0, big_1, big_2, big_3, big_4, big_5, big_6, big_7, big_8, big_9, big_10, big_11, big_12, draw_iff, own_ex, val_ex, wipeE, restE, Sl.keep, Option.getD_some, get_z, get_s, set_z, set_s, List.length_cons, List.length_nil, atI_0, atI_1, atI_2, atI_3, atI_4, ixN_5_0, ixN_5_1, ixN_5_2, ixN_5_3, ixN_5_4, D.bl.injEq, D.int.injEq, D.lst.injEq, D.tup.injEq, D.str.injEq, Sl.own.injEq, Sl.val.injEq, Option.some.injEq, exists_eq_left', exists_eq_left, exists_eq', exists_eq, or_true, true_or, or_false, false_or, CMul, CPow, natAbs_10, natAbs_2, Int.cast_ofNat_Int, Nat.reducePow, exists_and_left, exists_const, and_assoc, true_and, and_true, and_self, false_and, and_false, if_true, if_false, ite_true, ite_false, reduceCtorEq, decide_true, decide_false, decide_eq_true_eq, decide_eq_false_iff_not, Bool.not_true, Bool.not_false, Bool.false_eq_true, List.replicate_zero, List.replicate_succ, List.map_cons, List.map_nil, List.nil_append, List.cons_append, Nat.reduceSub, Nat.reduceAdd, Nat.reduceLeDiff, Nat.reduceLT, Int.reduceLT, Int.reduceLE, Int.reduceAdd, Int.reduceSub, Int.reduceMul, Int.reduceNeg, Int.reduceMod, Int.reduceDiv, Int.reducePow, Int.reduceToNat, okD_int, okD_bl, okD_lst, okD_tup, okD_non, okL_nil, okL_cons, okD_str, okL_int, eqD_int, eqD_bl, eqD_str, eqD_tup, eqD_lst, eqL_cons, eqL_nil, eqL_cn, eqL_nc, eqL_int, Bool.and_eq_true, Bool.or_eq_true, Bool.not_eq_true', Bool.and_false, Bool.false_and, Bool.or_false, Bool.false_or, Bool.or_true, Bool.true_or, Bool.and_true, Bool.true_and, Bool.and_self, wIsT2, wDct0, wLstOf, wRepF, wAsgH, DV.hN, hIx, hCons, hNil, hTup, wLM, gCnt, gIdx, gList, gSorted, wDctO, wPar3, wAppPop, wRaise0, wRaise1, wTry, wIsE, wAct, wFl, flD, gAnyX, gSumX, wCatF, wSSet, wLstR1, wLstR2, wTupR1, wFld])
    refine sp_state_of o hW ?_
    (try simp only [wSeq, wAsg, wOwn, wF, wLc, wSkip, wBrk, wCnt, wRet, wRetF, wRetN, wDrop, wIfS, wPar, wFor, wWh, wV, wApp, wExt, wSetIx, wAug, wVal, wLook, wC, wOp, wTst, wChain, wAnd, wOr, wNot, wAndV, wOrV, wNotV, wIf, wNil, wCons, wTup, wLst, wCall, wCB, wIsT, wiR1, wiR2, wiSq, wiEn, wiZip, gN, gT1, gT2, gT3, gT4, gT5, gT6, gT7, wYes, gAdd, DV.gSub, gMul, gMod, gDiv, gPow, gLt, gLe, gGt, gGe, gCmp, gEq, gNe, gIs, gIsN, DV.isNon, gIn, gNotIn, gIx, gSlc, wSlc, wNoP, wPart, gLen, gAbs, gInt, gMin2, gMax2, gAll, gAny, gSum, gTuple, wNeg, wRev, wRevX, itemsOf, D.isTy, D.isHand, Sl.toD, big_0, big_1, big_2, big_3, big_4, big_5, big_6, big_7, big_8, big_9, big_10, big_11, big_12, draw_iff, own_ex, val_ex, wipeE, restE, Sl.keep, Option.getD_some, get_z, get_s, set_z, set_s, List.length_cons, List.length_nil, atI_0, atI_1, atI_2, atI_3, atI_4, ixN_5_0, ixN_5_1, ixN_5_2, ixN_5_3, ixN_5_4, D.bl.injEq, D.int.injEq, D.lst.injEq, D.tup.injEq, D.str.injEq, Sl.own.injEq, Sl.val.injEq, Option.some.injEq, exists_eq_left', exists_eq_left, exists_eq', exists_eq, or_true, true_or, or_false, false_or, CMul, CPow, natAbs_10, natAbs_2, Int.cast_ofNat_Int, Nat.reducePow, exists_and_left, exists_const, and_assoc, true_and, and_true, and_self, false_and, and_false, if_true, if_false, ite_true, ite_false, reduceCtorEq, decide_true, decide_false, decide_eq_true_eq, decide_eq_false_iff_not, Bool.not_true, Bool.not_false, Bool.false_eq_true, List.replicate_zero, List.replicate_succ, List.map_cons, List.map_nil, List.nil_append, List.cons_append, Nat.reduceSub, Nat.reduceAdd, Nat.reduceLeDiff, Nat.reduceLT, Int.reduceLT, Int.reduceLE, Int.reduceAdd, Int.reduceSub, Int.reduceMul, Int.reduceNeg, Int.reduceMod, Int.reduceDiv, Int.reducePow, Int.reduceToNat, okD_int, okD_bl, okD_lst, okD_tup, okD_non, okL_nil, okL_cons, okD_str, okL_int, eqD_int, eqD_bl, eqD_str, eqD_tup, eqD_lst, eqL_cons, eqL_nil, eqL_cn, eqL_nc, eqL_int, Bool.and_eq_true, Bool.or_eq_true, Bool.not_eq_true', Bool.and_false, Bool.false_and, Bool.or_false, Bool.false_or, Bool.or_true, Bool.true_or, Bool.and_true, Bool.true_and, Bool.and_self, wIsT2, wDct0, wLstOf, wRepF, wAsgH, DV.hN, hIx, hCons, hNil, hTup, wLM, gCnt, gIdx, gList, gSorted, wDctO, wPar3, wAppPop, wRaise0, wRaise1, wTry, wIsE, wAct, wFl, flD, gAnyX, gSumX, wCatF, wSSet, wLstR1, wLstR2, wTupR1, wFld])
    refine ⟨_, runs_last, ?_⟩
    (try simp only [wSeq, wAsg, wOwn, wF, wLc, wSkip, wBrk, wCnt, wRet, wRetF, wRetN, wDrop, wIfS, wPar, wFor, wWh, wV, wApp, wExt, wSetIx, wAug, wVal, wLook, wC, wOp, wTst, wChain, wAnd, wOr, wNot, wAndV, wOrV, wNotV, wIf, wNil, wCons, wTup, wLst, wCall, wCB, wIsT, wiR1, wiR2, wiSq, wiEn, wiZip, gN, gT1, gT2, gT3, gT4, gT5, gT6, gT7, wYes, gAdd, DV.gSub, gMul, gMod, gDiv, gPow, gLt, gLe, gGt, gGe, gCmp, gEq, gNe, gIs, gIsN, DV.isNon, gIn, gNotIn, gIx, gSlc, wSlc, wNoP, wPart, gLen, gAbs, gInt, gMin2, gMax2, gAll, gAny, gSum, gTuple, wNeg, wRev, wRevX, itemsOf, D.isTy, D.isHand, Sl.toD, big_0, big_1, big_2, big_3, big_4, big_5, big_6, big_7, big_8, big_9, big_10, big_11, big_12, draw_iff, own_ex, val_ex, wipeE, restE, Sl.keep, Option.getD_some, get_z, get_s, set_z, set_s, List.length_cons, List.length_nil, atI_0, atI_1, atI_2, atI_3, atI_4, ixN_5_0, ixN_5_1, ixN_5_2, ixN_5_3, ixN_5_4, D.bl.injEq, D.int.injEq, D.lst.injEq, D.tup.injEq, D.str.injEq, Sl.own.injEq, Sl.val.injEq, Option.some.injEq, exists_eq_left', exists_eq_left, exists_eq', exists_eq, or_true, true_or, or_false, false_or, CMul, CPow, natAbs_10, natAbs_2, Int.cast_ofNat_Int, Nat.reducePow, exists_and_left, exists_const, and_assoc, true_and, and_true, and_self, false_and, and_false, if_true, if_false, ite_true, ite_false, reduceCtorEq, decide_true, decide_false, decide_eq_true_eq, decide_eq_false_iff_not, Bool.not_true, Bool.not_false, Bool.false_eq_true, List.replicate_zero, List.replicate_succ, List.map_cons, List.map_nil, List.nil_append, List.cons_append, Nat.reduceSub, Nat.reduceAdd, Nat.reduceLeDiff, Nat.reduceLT, Int.reduceLT, Int.reduceLE, Int.reduceAdd, Int.reduceSub, Int.reduceMul, Int.reduceNeg, Int.reduceMod, Int.reduceDiv, Int.reducePow, Int.reduceToNat, okD_int, okD_bl, okD_lst, okD_tup, okD_non, okL_nil, okL_cons, okD_str, okL_int, eqD_int, eqD_bl, eqD_str, eqD_tup, eqD_lst, eqL_cons, eqL_nil, eqL_cn, eqL_nc, eqL_int, Bool.and_eq_true, Bool.or_eq_true, Bool.not_eq_true', Bool.and_false, Bool.false_and, Bool.or_false, Bool.false_or, Bool.or_true, Bool.true_or, Bool.and_true, Bool.true_and, Bool.and_self, wIsT2, wDct0, wLstOf, wRepF, wAsgH, DV.hN, hIx, hCons, hNil, hTup, wLM, gCnt, gIdx, gList, gSorted, wDctO, wPar3, wAppPop, wRaise0, wRaise1, wTry, wIsE, wAct, wFl, flD, gAnyX, gSumX, wCatF, wSSet, wLstR1, wLstR2, wTupR1, wFld])
    unfold B_law_10
    (try simp only [wSeq, wAsg, wOwn, wF, wLc, wSkip, wBrk, wCnt, wRet, wRetF, wRetN, wDrop, wIfS, wPar, wFor, wWh, wV, wApp, wExt, wSetIx, wAug, wVal, wLook, wC, wOp, wTst, wChain, wAnd, wOr, wNot, wAndV, wOrV, wNotV, wIf, wNil, wCons, wTup, wLst, wCall, wCB, wIsT, wiR1, wiR2, wiSq, wiEn, wiZip, gN, gT1, gT2, gT3, gT4, gT5, gT6, gT7, wYes, gAdd, DV.gSub, gMul, gMod, gDiv, gPow, gLt, gLe, gGt, gGe, gCmp, gEq, gNe, gIs, gIsN, DV.isNon, gIn, gNotIn, gIx, gSlc, wSlc, wNoP, wPart, gLen, gAbs, gInt, gMin2, gMax2, gAll, gAny, gSum, gTuple, wNeg, wRev, wRevX, itemsOf, D.isTy, D.isHand, Sl.toD, big_0, big_1, big_2, big_3, big_4, big_5, big_6, big_7, big_8, big_9, big_10, big_11, big_12, draw_iff, own_ex, val_ex, wipeE, restE, Sl.keep, Option.getD_some, get_z, get_s, set_z, set_s, List.length_cons, List.length_nil, atI_0, atI_1, atI_2, atI_3, atI_4, ixN_5_0, ixN_5_1, ixN_5_2, ixN_5_3, ixN_5_4, D.bl.injEq, D.int.injEq, D.lst.injEq, D.tup.injEq, D.str.injEq, Sl.own.injEq, Sl.val.injEq, Option.some.injEq, exists_eq_left', exists_eq_left, exists_eq', exists_eq, or_true, true_or, or_false, false_or, CMul, CPow, natAbs_10, natAbs_2, Int.cast_ofNat_Int, Nat.reducePow, exists_and_left, exists_const, and_assoc, true_and, and_true, and_self, false_and, and_false, if_true, if_false, ite_true, ite_false, reduceCtorEq, decide_true, decide_false, decide_eq_true_eq, decide_eq_false_iff_not, Bool.not_true, Bool.not_false, Bool.false_eq_true, List.replicate_zero, List.replicate_succ, List.map_cons, List.map_nil, List.nil_append, List.cons_append, Nat.reduceSub, Nat.reduceAdd, Nat.reduceLeDiff, Nat.reduceLT, Int.reduceLT, Int.reduceLE, Int.reduceAdd, Int.reduceSub, Int.reduceMul, Int.reduceNeg, Int.reduceMod, Int.reduceDiv, Int.reducePow, Int.reduceToNat, okD_int, okD_bl, okD_lst, okD_tup, okD_non, okL_nil, okL_cons, okD_str, okL_int, eqD_int, eqD_bl, eqD_str, eqD_tup, eqD_lst, eqL_cons, eqL_nil, eqL_cn, eqL_nc, eqL_int, Bool.and_eq_true, Bool.or_eq_true, Bool.not_eq_true', Bool.and_false, Bool.false_and, Bool.or_false, Bool.false_or, Bool.or_true, Bool.true_or, Bool.and_true, Bool.true_and, Bool.and_self, wIsT2, wDct0, wLstOf, wRepF, wAsgH, DV.hN, hIx, hCons, hNil, hTup, wLM, gCnt, gIdx, gList, gSorted, wDctO, wPar3, wAppPop, wRaise0, wRaise1, wTry, wIsE, wAct, wFl, flD, gAnyX, gSumX, wCatF, wSSet, wLstR1, wLstR2, wTupR1, wFld])
    refine sp_is_good_w o hW ?_
    (try simp only [wSeq, wAsg, wOwn, wF, wLc, wSkip, wBrk, wCnt, wRet, wRetF, wRetN, wDrop, wIfS, wPar, wFor, wWh, wV, wApp, wExt, wSetIx, wAug, wVal, wLook, wC, wOp, wTst, wChain, wAnd, wOr, wNot, wAndV, wOrV, wNotV, wIf, wNil, wCons, wTup, wLst, wCall, wCB, wIsT, wiR1, wiR2, wiSq, wiEn, wiZip, gN, gT1, gT2, gT3, gT4, gT5, gT6, gT7, wYes, gAdd, DV.gSub, gMul, gMod, gDiv, gPow, gLt, gLe, gGt, gGe, gCmp, gEq, gNe, gIs, gIsN, DV.isNon, gIn, gNotIn, gIx, gSlc, wSlc, wNoP, wPart, gLen, gAbs, gInt, gMin2, gMax2, gAll, gAny, gSum, gTuple, wNeg, wRev, wRevX, itemsOf, D.isTy, D.isHand, Sl.toD, big_0, big_1, big_2, big_3, big_4, big_5, big_6, big_7, big_8, big_9, big_10, big_11, big_12, draw_iff, own_ex, val_ex, wipeE, restE, Sl.keep, Option.getD_some, get_z, get_s, set_z, set_s, List.length_cons, List.length_nil, atI_0, atI_1, atI_2, atI_3, atI_4, ixN_5_0, ixN_5_1, ixN_5_2, ixN_5_3, ixN_5_4, D.bl.injEq, D.int.injEq, D.lst.injEq, D.tup.injEq, D.str.injEq, Sl.own.injEq, Sl.val.injEq, Option.some.injEq, exists_eq_left', exists_eq_left, exists_eq', exists_eq, or_true, true_or, or_false, false_or, CMul, CPow, natAbs_10, natAbs_2, Int.cast_ofNat_Int, Nat.reducePow, exists_and_left, exists_const, and_assoc, true_and, and_true, and_self, false_and, and_false, if_true, if_false, ite_true, ite_false, reduceCtorEq, decide_true, decide_false, decide_eq_true_eq, decide_eq_false_iff_not, Bool.not_true, Bool.not_false, Bool.false_eq_true, List.replicate_zero, List.replicate_succ, List.map_cons, List.map_nil, List.nil_append, List.cons_append, Nat.reduceSub, Nat.reduceAdd, Nat.reduceLeDiff, Nat.reduceLT, Int.reduceLT, Int.reduceLE, Int.reduceAdd, Int.reduceSub, Int.reduceMul, Int.reduceNeg, Int.reduceMod, Int.reduceDiv, Int.reducePow, Int.reduceToNat, okD_int, okD_bl, okD_lst, okD_tup, okD_non, okL_nil, okL_cons, okD_str, okL_int, eqD_int, eqD_bl, eqD_str, eqD_tup, eqD_lst, eqL_cons, eqL_nil, eqL_cn, eqL_nc, eqL_int, Bool.and_eq_true, Bool.or_eq_true, Bool.not_eq_true', Bool.and_false, Bool.false_and, Bool.or_false, Bool.false_or, Bool.or_true, Bool.true_or, Bool.and_true, Bool.true_and, Bool.and_self, wIsT2, wDct0, wLstOf, wRepF, wAsgH, DV.hN, hIx, hCons, hNil, hTup, wLM, gCnt, gIdx, gList, gSorted, wDctO, wPar3, wAppPop, wRaise0, wRaise1, wTry, wIsE, wAct, wFl, flD, gAnyX, gSumX, wCatF, wSSet, wLstR1, wLstR2, wTupR1, wFld])
    refine ⟨_, runs_last, ?_⟩
    simp only [wSeq, wAsg, wOwn, wF, wLc, wSkip, wBrk, wCnt, wRet, wRetF, wRetN, wDrop, wIfS, wPar, wFor, wWh, wV, wApp, wExt, wSetIx, wAug, wVal, wLook, wC, wOp, wTst, wChain, wAnd, wOr, wNot, wAndV, wOrV, wNotV, wIf, wNil, wCons, wTup, wLst, wCall, wCB, wIsT, wiR1, wiR2, wiSq, wiEn, wiZip, gN, gT1, gT2, gT3, gT4, gT5, gT6, gT7, wYes, gAdd, DV.gSub, gMul, gMod, gDiv, gPow, gLt, gLe, gGt, gGe, gCmp, gEq, gNe, gIs, gIsN, DV.isNon, gIn, gNotIn, gIx, gSlc, wSlc, wNoP, wPart, gLen, gAbs, gInt, gMin2, gMax2, gAll, gAny, gSum, gTuple, wNeg, wRev, wRevX, itemsOf, D.isTy, D.isHand, Sl.toD, big_0, big_1, big_2, big_3, big_4, big_5, big_6, big_7, big_8, big_9, big_10, big_11, big_12, draw_iff, own_ex, val_ex, wipeE, restE, Sl.keep, Option.getD_some, get_z, get_s, set_z, set_s, List.length_cons, List.length_nil, atI_0, atI_1, atI_2, atI_3, atI_4, ixN_5_0, ixN_5_1, ixN_5_2, ixN_5_3, ixN_5_4, D.bl.injEq, D.int.injEq, D.lst.injEq, D.tup.injEq, D.str.injEq, Sl.own.injEq, Sl.val.injEq, Option.some.injEq, exists_eq_left', exists_eq_left, exists_eq', exists_eq, or_true, true_or, or_false, false_or, CMul, CPow, natAbs_10, natAbs_2, Int.cast_ofNat_Int, Nat.reducePow, exists_and_left, exists_const, and_assoc, true_and, and_true, and_self, false_and, and_false, if_true, if_false, ite_true, ite_false, reduceCtorEq, decide_true, decide_false, decide_eq_true_eq, decide_eq_false_iff_not, Bool.not_true, Bool.not_false, Bool.false_eq_true, List.replicate_zero, List.replicate_succ, List.map_cons, List.map_nil, List.nil_append, List.cons_append, Nat.reduceSub, Nat.reduceAdd, Nat.reduceLeDiff, Nat.reduceLT, Int.reduceLT, Int.reduceLE, Int.reduceAdd, Int.reduceSub, Int.reduceMul, Int.reduceNeg, Int.reduceMod, Int.reduceDiv, Int.reducePow, Int.reduceToNat, okD_int, okD_bl, okD_lst, okD_tup, okD_non, okL_nil, okL_cons, okD_str, okL_int, eqD_int, eqD_bl, eqD_str, eqD_tup, eqD_lst, eqL_cons, eqL_nil, eqL_cn, eqL_nc, eqL_int, Bool.and_eq_true, Bool.or_eq_true, Bool.not_eq_true', Bool.and_false, Bool.false_and, Bool.or_false, Bool.false_or, Bool.or_true, Bool.true_or, Bool.and_true, Bool.true_and, Bool.and_self, wIsT2, wDct0, wLstOf, wRepF, wAsgH, DV.hN, hIx, hCons, hNil, hTup, wLM, gCnt, gIdx, gList, gSorted, wDctO, wPar3, wAppPop, wRaise0, wRaise1, wTry, wIsE, wAct, wFl, flD, gAnyX, gSumX, wCatF, wSSet, wLstR1, wLstR2, wTupR1, wFld, eqD_int, eqD_bl]
    exact h w _ hW
theorem law_16 (o : SchOk s m R) {bad : D} (hbad : Bad s bad) {x2 x5 x6 x7 x9 x10 : Sl} {P : Post} (h : ∀ (x9 x10 : Sl), P.nx [.no, .val .hand, x2, .val (dSch s m R), .val (.int s), x5, x6, x7, .val bad, x9, x10, .no]) :
    B_law_16 [.no, .val .hand, x2, .val (dSch s m R), .val (.int s), x5, x6, x7, .val bad, x9, x10, .no] P := by
  unfold B_law_16
  (try simp only [wSeq, wAsg, wOwn, wF, wLc, wSkip, wBrk, wCnt, wRet, wRetF, wRetN, wDrop, wIfS, wPar, wFor, wWh, wV, wApp, wExt, wSetIx, wAug, wVal, wLook, wC, wOp, wTst, wChain, wAnd, wOr, wNot, wAndV, wOrV, wNotV, wIf, wNil, wCons, wTup, wLst, wCall, wCB, wIsT, wiR1, wiR2, wiSq, wiEn, wiZip, gN, gT1, gT2, gT3, gT4, gT5, gT6, gT7, wYes, gAdd, DV.gSub, gMul, gMod, gDiv, gPow, gLt, gLe, gGt, gGe, gCmp, gEq, gNe, gIs, gIsN, DV.isNon, gIn, gNotIn, gIx, gSlc, wSlc, wNoP, wPart, gLen, gAbs, gInt, gMin2, gMax2, gAll, gAny, gSum, gTuple, wNeg, wRev, wRevX, itemsOf, D.isTy, D.isHand, Sl.toD, big_0, big_1, big_2, big_3, big_4, big_5, big_6, big_7, big_8, big_9, big_10, big_11, big_12, draw_iff, own_ex, val_ex, wipeE, restE, Sl.keep, Option.getD_some, get_z, get_s, set_z, set_s, List.length_cons, List.length_nil, atI_0, atI_1, atI_2, atI_3, atI_4, ixN_5_0, ixN_5_1, ixN_5_2, ixN_5_3, ixN_5_4, D.bl.injEq, D.int.injEq, D.lst.injEq, D.tup.injEq, D.str.injEq, Sl.own.injEq, Sl.val.injEq, Option.some.injEq, exists_eq_left', exists_eq_left, exists_eq', exists_eq, or_true, true_or, or_false, false_or, CMul, CPow, natAbs_10, natAbs_2, Int.cast_ofNat_Int, Nat.reducePow, exists_and_left, exists_const, and_assoc, true_and, and_true, and_self, false_and, and_false, if_true, if_false, ite_true, ite_false, reduceCtorEq, decide_true, decide_false, decide_eq_true_eq, decide_eq_false_iff_not, Bool.not_true, Bool.not_false, Bool.false_eq_true, List.replicate_zero, List.replicate_succ, List.map_cons, List.map_nil, List.nil_append, List.cons_append, Nat.reduceSub, Nat.reduceAdd, Nat.reduceLeDiff, Nat.reduceLT, Int.reduceLT, Int.reduceLE, Int.reduceAdd, Int.reduceSub, Int.reduceMul, Int.reduceNeg, Int.reduceMod, Int.reduceDiv, Int.reducePow, Int.reduceToNat, okD_int, okD_bl, okD_lst, okD_tup, okD_non, okL_nil, okL_cons, okD_str, okL_int, eqD_int, eqD_bl, eqD_str, eqD_tup, eqD_lst, eqL_cons, eqL_nil, eqL_cn, eqL_nc, eqL_int, Bool.and_eq_true, Bool.or_eq_true, Bool.not_eq_true', Bool.and_false, Bool.false_and, Bool.or_false, Bool.false_or, Bool.or_true, Bool.true_or, Bool.and_true, Bool.true_and, Bool.and_self, wIsT2, wDct0, wLstOf, wRepF, wAsgH, DV.hN, hIx, hCons, hNil, hTup, wLM, gCnt, gIdx, gList, gSorted, wDctO, wPar3, wAppPop, wRaise0, wRaise1, wTry, wIsE, wAct, wFl, flD, gAnyX, gSumX, wCatF, wSSet, wLstR1, wLstR2, wTupR1, wFld])
  refine sp_lam (sp_said_w (fun Q' E' he => ?_) ?_)
  · (try simp only [wSeq, wAsg, wOwn, wF, wLc, wSkip, wBrk, wCnt, wRet, wRetF, wRetN, wDrop, wIfS, wPar, wFor, wWh, wV, wApp, wExt, wSetIx, wAug, wVal, wLook, wC, wOp, wTst, wChain, wAnd, wOr, wNot, wAndV, wOrV, wNotV, wIf, wNil, wCons, wTup, wLst, wCall, wCB, wIsT, wiR1, wiR2, wiSq, wiEn, wiZip, gN, gT1, gT2, gT3, gT4, gT5, gT6, gT7, wYes, gAdd, DV.gSub, gMul, gMod, gDiv, gPow, gLt, gLe, gGt, gGe, gCmp, gEq, gNe, gIs, gIsN, DV.isNon, gIn, gNotIn, gIx, gSlc, wSlc, wNoP, wPart, gLen, gAbs, gInt, gMin2, gMax2, gAll, gAny, gSum, gTuple, wNeg, wRev, wRevX, itemsOf, D.isTy, D.isHand, Sl.toD, big_0, big_1, big_2, big_3, big_4, big_5, big_6, big_7, big_8, big_9, big_10, big_11, big_12, draw_iff, own_ex, val_ex, wipeE, restE, Sl.keep, Option.getD_some, get_z, get_s, set_z, set_s, List.length_cons, List.length_nil, atI_0, atI_1, atI_2, atI_3, atI_4, ixN_5_0, ixN_5_1, ixN_5_2, ixN_5_3, ixN_5_4, D.bl.injEq, D.int.injEq, D.lst.injEq, D.tup.injEq, D.str.injEq, Sl.own.injEq, Sl.val.injEq, Option.some.injEq, exists_eq_left', exists_eq_left, exists_eq', exists_eq, or_true, true_or, or_false, false_or, CMul, CPow, natAbs_10, natAbs_2, Int.cast_ofNat_Int, Nat.reducePow, exists_and_left, exists_const, and_assoc, true_and, and_true, and_self, false_and, and_false, if_true, if_false, ite_true, ite_false, reduceCtorEq, decide_true, decide_false, decide_eq_true_eq, decide_eq_false_iff_not, Bool.not_true, Bool.not_false, Bool.false_eq_true, List.replicate_zero, List.replicate_succ, List.map_cons, List.map_nil, List.nil_append, List.cons_append, Nat.reduceSub, Nat.reduceAdd, Nat.reduceLeDiff, Nat.reduceLT, Int.reduceLT, Int.reduceLE, Int.reduceAdd, Int.reduceSub, Int.reduceMul, Int.reduceNeg, Int.reduceMod, Int.reduceDiv, Int.reducePow, Int.reduceToNat, okD_int, okD_bl, okD_lst, okD_tup, okD_non, okL_nil, okL_cons, okD_str, okL_int, eqD_int, eqD_bl, eqD_str, eqD_tup, eqD_lst, eqL_cons, eqL_nil, eqL_cn, eqL_nc, eqL_int, Bool.and_eq_true, Bool.or_eq_true, Bool.not_eq_true', Bool.and_false, Bool.false_and, Bool.or_false, Bool.false_or, Bool.or_true, Bool.true_or, Bool.and_true, Bool.true_and, Bool.and_self, wIsT2, wDct0, wLstOf, wRepF, wAsgH, DV.hN, hIx, hCons, hNil, hTup, wLM, gCnt, gIdx, gList, gSorted, wDctO, wPar3, wAppPop, wRaise0, wRaise1, wTry, wIsE, wAct, wFl, flD, gAnyX, gSumX, wCatF, wSSet, wLstR1, wLstR2, wTupR1, wFld])
    exact state_of_bad hbad.1 hbad.2 he
  (try simp only [wSeq, wAsg, wOwn, wF, wLc, wSkip, wBrk, wCnt, wRet, wRetF, wRetN, wDrop, wIfS, wPar, wFor, wWh, wV, wApp, wExt, wSetIx, wAug, wVal, wLook, wC, wOp, wTst, wChain, wAnd, wOr, wNot, wAndV, wOrV, wNotV, wIf, wNil, wCons, wTup, wLst, wCall, wCB, wIsT, wiR1, wiR2, wiSq, wiEn, wiZip, gN, gT1, gT2, gT3, gT4, gT5, gT6, gT7, wYes, gAdd, DV.gSub, gMul, gMod, gDiv, gPow, gLt, gLe, gGt, gGe, gCmp, gEq, gNe, gIs, gIsN, DV.isNon, gIn, gNotIn, gIx, gSlc, wSlc, wNoP, wPart, gLen, gAbs, gInt, gMin2, gMax2, gAll, gAny, gSum, gTuple, wNeg, wRev, wRevX, itemsOf, D.isTy, D.isHand, Sl.toD, big_0, big_1, big_2, big_3, big_4, big_5, big_6, big_7, big_8, big_9, big_10, big_11, big_12, draw_iff, own_ex, val_ex, wipeE, restE, Sl.keep, Option.getD_some, get_z, get_s, set_z, set_s, List.length_cons, List.length_nil, atI_0, atI_1, atI_2, atI_3, atI_4, ixN_5_0, ixN_5_1, ixN_5_2, ixN_5_3, ixN_5_4, D.bl.injEq, D.int.injEq, D.lst.injEq, D.tup.injEq, D.str.injEq, Sl.own.injEq, Sl.val.injEq, Option.some.injEq, exists_eq_left', exists_eq_left, exists_eq', exists_eq, or_true, true_or, or_false, false_or, CMul, CPow, natAbs_10, natAbs_2, Int.cast_ofNat_Int, Nat.reducePow, exists_and_left, exists_const, and_assoc, true_and, and_true, and_self, false_and, and_false, if_true, if_false, ite_true, ite_false, reduceCtorEq, decide_true, decide_false, decide_eq_true_eq, decide_eq_false_iff_not, Bool.not_true, Bool.not_false, Bool.false_eq_true, List.replicate_zero, List.replicate_succ, List.map_cons, List.map_nil, List.nil_append, List.cons_append, Nat.reduceSub, Nat.reduceAdd, Nat.reduceLeDiff, Nat.reduceLT, Int.reduceLT, Int.reduceLE, Int.reduceAdd, Int.reduceSub, Int.reduceMul, Int.reduceNeg, Int.reduceMod, Int.reduceDiv, Int.reducePow, Int.reduceToNat, okD_int, okD_bl, okD_lst, okD_tup, okD_non, okL_nil, okL_cons, okD_str, okL_int, eqD_int, eqD_bl, eqD_str, eqD_tup, eqD_lst, eqL_cons, eqL_nil, eqL_cn, eqL_nc, eqL_int, Bool.and_eq_true, Bool.or_eq_true, Bool.not_eq_true', Bool.and_false, Bool.false_and, Bool.or_false, Bool.false_or, Bool.or_true, Bool.true_or, Bool.and_true, Bool.true_and, Bool.and_self, wIsT2, wDct0, wLstOf, wRepF, wAsgH, DV.hN, hIx, hCons, hNil, hTup, wLM, gCnt, gIdx, gList, gSorted, wDctO, wPar3, wAppPop, wRaise0, wRaise1, wTry, wIsE, wAct, wFl, flD, gAnyX, gSumX, wCatF, wSSet, wLstR1, wLstR2, wTupR1, wFld])
  intro a10
  unfold B_law_17
  (try simp only [wSeq, wAsg, wOwn, wF, wLc, wSkip, wBrk, wCnt, wRet, wRetF, wRetN, wDrop, wIfS, wPar, wFor, wWh, wV, wApp, wExt, wSetIx, wAug, wVal, wLook, wC, wOp, wTst, wChain, wAnd, wOr, wNot, wAndV, wOrV, wNotV, wIf, wNil, wCons, wTup, wLst, wCall, wCB, wIsT, wiR1, wiR2, wiSq, wiEn, wiZip, gN, gT1, gT2, gT3, gT4, gT5, gT6, gT7, wYes, gAdd, DV.gSub, gMul, gMod, gDiv, gPow, gLt, gLe, gGt, gGe, gCmp, gEq, gNe, gIs, gIsN, DV.isNon, gIn, gNotIn, gIx, gSlc, wSlc, wNoP, wPart, gLen, gAbs, gInt, gMin2, gMax2, gAll, gAny, gSum, gTuple, wNeg, wRev, wRevX, itemsOf, D.isTy, D.isHand, Sl.toD, big_0, big_1, big_2, big_3, big_4, big_5, big_6, big_7, big_8, big_9, big_10, big_11, big_12, draw_iff, own_ex, val_ex, wipeE, restE, Sl.keep, Option.getD_some, get_z, get_s, set_z, set_s, List.length_cons, List.length_nil, atI_0, atI_1, atI_2, atI_3, atI_4, ixN_5_0, ixN_5_1, ixN_5_2, ixN_5_3, ixN_5_4, D.bl.injEq, D.int.injEq, D.lst.injEq, D.tup.injEq, D.str.injEq, Sl.own.injEq, Sl.val.injEq, Option.some.injEq, exists_eq_left', exists_eq_left, exists_eq', exists_eq, or_true, true_or, or_false, false_or, CMul, CPow, natAbs_10, natAbs_2, Int.cast_ofNat_Int, Nat.reducePow, exists_and_left, exists_const, and_assoc, true_and, and_true, and_self, false_and, and_false, if_true, if_false, ite_true, ite_false, reduceCtorEq, decide_true, decide_false, decide_eq_true_eq, decide_eq_false_iff_not, Bool.not_true, Bool.not_false, Bool.false_eq_true, List.replicate_zero, List.replicate_succ, List.map_cons, List.map_nil, List.nil_append, List.cons_append, Nat.reduceSub, Nat.reduceAdd, Nat.reduceLeDiff, Nat.reduceLT, Int.reduceLT, Int.reduceLE, Int.reduceAdd, Int.reduceSub, Int.reduceMul, Int.reduceNeg, Int.reduceMod, Int.reduceDiv, Int.reducePow, Int.reduceToNat, okD_int, okD_bl, okD_lst, okD_tup, okD_non, okL_nil, okL_cons, okD_str, okL_int, eqD_int, eqD_bl, eqD_str, eqD_tup, eqD_lst, eqL_cons, eqL_nil, eqL_cn, eqL_nc, eqL_int, Bool.and_eq_true, Bool.or_eq_true, Bool.not_eq_true', Bool.and_false, Bool.false_and, Bool.or_false, Bool.false_or, Bool.or_true, Bool.true_or, Bool.and_true, Bool.true_and, Bool.and_self, wIsT2, wDct0, wLstOf, wRepF, wAsgH, DV.hN, hIx, hCons, hNil, hTup, wLM, gCnt, gIdx, gList, gSorted, wDctO, wPar3, wAppPop, wRaise0, wRaise1, wTry, wIsE, wAct, wFl, flD, gAnyX, gSumX, wCatF, wSSet, wLstR1, wLstR2, wTupR1, wFld])
  refine sp_lam (sp_said_w (fun Q' E' he => ?_) ?_)
  · (try simp only [wSeq, wAsg, wOwn, wF, wLc, wSkip, wBrk, wCnt, wRet, wRetF, wRetN, wDrop, wIfS, wPar, wFor, wWh, wV, wApp, wExt, wSetIx, wAug, wVal, wLook, wC, wOp, wTst, wChain, wAnd, wOr, wNot, wAndV, wOrV, wNotV, wIf, wNil, wCons, wTup, wLst, wCall, wCB, wIsT, wiR1, wiR2, wiSq, wiEn, wiZip, gN, gT1, gT2, gT3, gT4, gT5, gT6, gT7, wYes, gAdd, DV.gSub, gMul, gMod, gDiv, gPow, gLt, gLe, gGt, gGe, gCmp, gEq, gNe, gIs, gIsN, DV.isNon, gIn, gNotIn, gIx, gSlc, wSlc, wNoP, wPart, gLen, gAbs, gInt, gMin2, gMax2, gAll, gAny, gSum, gTuple, wNeg, wRev, wRevX, itemsOf, D.isTy, D.isHand, Sl.toD, big_0, big_1, big_2, big_3, big_4, big_5, big_6, big_7, big_8, big_9, big_10, big_11, big_12, draw_iff, own_ex, val_ex, wipeE, restE, Sl.keep, Option.getD_some, get_z, get_s, set_z, set_s, List.length_cons, List.length_nil, atI_0, atI_1, atI_2, atI_3, atI_4, ixN_5_0, ixN_5_1, ixN_5_2, ixN_5_3, ixN_5_4, D.bl.injEq, D.int.injEq, D.lst.injEq, D.tup.injEq, D.str.injEq, Sl.own.injEq, Sl.val.injEq, Option.some.injEq, exists_eq_left', exists_eq_left, exists_eq', exists_eq, or_true, true_or, or_false, false_or, CMul, CPow, natAbs_10, natAbs_2, Int.cast_ofNat_Int, Nat.reducePow, exists_and_left, exists_const, and_assoc, true_and, and_true, and_self, false_and, and_false, if_true, if_false, ite_true, ite_false, reduceCtorEq, decide_true, decide_false, decide_eq_true_eq, decide_eq_false_iff_not, Bool.not_true, Bool.not_false, Bool.false_eq_true, List.replicate_zero, List.replicate_succ, List.map_cons, List.map_nil, List.nil_append, List.cons_append, Nat.reduceSub, Nat.reduceAdd, Nat.reduceLeDiff, Nat.reduceLT, Int.reduceLT, Int.reduceLE, Int.reduceAdd, Int.reduceSub, Int.reduceMul, Int.reduceNeg, Int.reduceMod, Int.reduceDiv, Int.reducePow, Int.reduceToNat, okD_int, okD_bl, okD_lst, okD_tup, okD_non, okL_nil, okL_cons, okD_str, okL_int, eqD_int, eqD_bl, eqD_str, eqD_tup, eqD_lst, eqL_cons, eqL_nil, eqL_cn, eqL_nc, eqL_int, Bool.and_eq_true, Bool.or_eq_true, Bool.not_eq_true', Bool.and_false, Bool.false_and, Bool.or_false, Bool.false_or, Bool.or_true, Bool.true_or, Bool.and_true, Bool.true_and, Bool.and_self, wIsT2, wDct0, wLstOf, wRepF, wAsgH, DV.hN, hIx, hCons, hNil, hTup, wLM, gCnt, gIdx, gList, gSorted, wDctO, wPar3, wAppPop, wRaise0, wRaise1, wTry, wIsE, wAct, wFl, flD, gAnyX, gSumX, wCatF, wSSet, wLstR1, wLstR2, wTupR1, wFld])
    exact read_on_bad hbad.1 hbad.2 he
  (try simp only [wSeq, wAsg, wOwn, wF, wLc, wSkip, wBrk, wCnt, wRet, wRetF, wRetN, wDrop, wIfS, wPar, wFor, wWh, wV, wApp, wExt, wSetIx, wAug, wVal, wLook, wC, wOp, wTst, wChain, wAnd, wOr, wNot, wAndV, wOrV, wNotV, wIf, wNil, wCons, wTup, wLst, wCall, wCB, wIsT, wiR1, wiR2, wiSq, wiEn, wiZip, gN, gT1, gT2, gT3, gT4, gT5, gT6, gT7, wYes, gAdd, DV.gSub, gMul, gMod, gDiv, gPow, gLt, gLe, gGt, gGe, gCmp, gEq, gNe, gIs, gIsN, DV.isNon, gIn, gNotIn, gIx, gSlc, wSlc, wNoP, wPart, gLen, gAbs, gInt, gMin2, gMax2, gAll, gAny, gSum, gTuple, wNeg, wRev, wRevX, itemsOf, D.isTy, D.isHand, Sl.toD, big_0, big_1, big_2, big_3, big_4, big_5, big_6, big_7, big_8, big_9, big_10, big_11, big_12, draw_iff, own_ex, val_ex, wipeE, restE, Sl.keep, Option.getD_some, get_z, get_s, set_z, set_s, List.length_cons, List.length_nil, atI_0, atI_1, atI_2, atI_3, atI_4, ixN_5_0, ixN_5_1, ixN_5_2, ixN_5_3, ixN_5_4, D.bl.injEq, D.int.injEq, D.lst.injEq, D.tup.injEq, D.str.injEq, Sl.own.injEq, Sl.val.injEq, Option.some.injEq, exists_eq_left', exists_eq_left, exists_eq', exists_eq, or_true, true_or, or_false, false_or, CMul, CPow, natAbs_10, natAbs_2, Int.cast_ofNat_Int, Nat.reducePow, exists_and_left, exists_const, and_assoc, true_and, and_true, and_self, false_and, and_false, if_true, if_false, ite_true, ite_false, reduceCtorEq, decide_true, decide_false, decide_eq_true_eq, decide_eq_false_iff_not, Bool.not_true, Bool.not_false, Bool.false_eq_true, List.replicate_zero, List.replicate_succ, List.map_cons, List.map_nil, List.nil_append, List.cons_append, Nat.reduceSub, Nat.reduceAdd, Nat.reduceLeDiff, Nat.reduceLT, Int.reduceLT, Int.reduceLE, Int.reduceAdd, Int.reduceSub, Int.reduceMul, Int.reduceNeg, Int.reduceMod, Int.reduceDiv, Int.reducePow, Int.reduceToNat, okD_int, okD_bl, okD_lst, okD_tup, okD_non, okL_nil, okL_cons, okD_str, okL_int, eqD_int, eqD_bl, eqD_str, eqD_tup, eqD_lst, eqL_cons, eqL_nil, eqL_cn, eqL_nc, eqL_int, Bool.and_eq_true, Bool.or_eq_true, Bool.not_eq_true', Bool.and_false, Bool.false_and, Bool.or_false, Bool.false_or, Bool.or_true, Bool.true_or, Bool.and_true, Bool.true_and, Bool.and_self, wIsT2, wDct0, wLstOf, wRepF, wAsgH, DV.hN, hIx, hCons, hNil, hTup, wLM, gCnt, gIdx, gList, gSorted, wDctO, wPar3, wAppPop, wRaise0, wRaise1, wTry, wIsE, wAct, wFl, flD, gAnyX, gSumX, wCatF, wSSet, wLstR1, wLstR2, wTupR1, wFld])
  refine ⟨by unfold big; decide, ?_⟩
  unfold B_law_18
  have sw : PyData.strOk ("word" : Str) = true := by decide +kernel
  have W0 : Wd s [] := ⟨by decide, fun x hx => by cases hx⟩
  have g0 : ∀ (Q : D → Prop) (E : Er → Prop), Q (.bl true) → T_is_good [dSch s m R, .tup []] Q E := fun Q E hq => sp_is_good_w o W0 hq
  simp only [wSeq, wAsg, wOwn, wF, wLc, wSkip, wBrk, wCnt, wRet, wRetF, wRetN, wDrop, wIfS, wPar, wFor, wWh, wV, wApp, wExt, wSetIx, wAug, wVal, wLook, wC, wOp, wTst, wChain, wAnd, wOr, wNot, wAndV, wOrV, wNotV, wIf, wNil, wCons, wTup, wLst, wCall, wCB, wIsT, wiR1, wiR2, wiSq, wiEn, wiZip, gN, gT1, gT2, gT3, gT4, gT5, gT6, gT7, wYes, gAdd, DV.gSub, gMul, gMod, gDiv, gPow, gLt, gLe, gGt, gGe, gCmp, gEq, gNe, gIs, gIsN, DV.isNon, gIn, gNotIn, gIx, gSlc, wSlc, wNoP, wPart, gLen, gAbs, gInt, gMin2, gMax2, gAll, gAny, gSum, gTuple, wNeg, wRev, wRevX, itemsOf, D.isTy, D.isHand, Sl.toD, big_0, big_1, big_2, big_3, big_4, big_5, big_6, big_7, big_8, big_9, big_10, big_11, big_12, draw_iff, own_ex, val_ex, wipeE, restE, Sl.keep, Option.getD_some, get_z, get_s, set_z, set_s, List.length_cons, List.length_nil, atI_0, atI_1, atI_2, atI_3, atI_4, ixN_5_0, ixN_5_1, ixN_5_2, ixN_5_3, ixN_5_4, D.bl.injEq, D.int.injEq, D.lst.injEq, D.tup.injEq, D.str.injEq, Sl.own.injEq, Sl.val.injEq, Option.some.injEq, exists_eq_left', exists_eq_left, exists_eq', exists_eq, or_true, true_or, or_false, false_or, CMul, CPow, natAbs_10, natAbs_2, Int.cast_ofNat_Int, Nat.reducePow, exists_and_left, exists_const, and_assoc, true_and, and_true, and_self, false_and, and_false, if_true, if_false, ite_true, ite_false, reduceCtorEq, decide_true, decide_false, decide_eq_true_eq, decide_eq_false_iff_not, Bool.not_true, Bool.not_false, Bool.false_eq_true, List.replicate_zero, List.replicate_succ, List.map_cons, List.map_nil, List.nil_append, List.cons_append, Nat.reduceSub, Nat.reduceAdd, Nat.reduceLeDiff, Nat.reduceLT, Int.reduceLT, Int.reduceLE, Int.reduceAdd, Int.reduceSub, Int.reduceMul, Int.reduceNeg, Int.reduceMod, Int.reduceDiv, Int.reducePow, Int.reduceToNat, okD_int, okD_bl, okD_lst, okD_tup, okD_non, okL_nil, okL_cons, okD_str, okL_int, eqD_int, eqD_bl, eqD_str, eqD_tup, eqD_lst, eqL_cons, eqL_nil, eqL_cn, eqL_nc, eqL_int, Bool.and_eq_true, Bool.or_eq_true, Bool.not_eq_true', Bool.and_false, Bool.false_and, Bool.or_false, Bool.false_or, Bool.or_true, Bool.true_or, Bool.and_true, Bool.true_and, Bool.and_self, wIsT2, wDct0, wLstOf, wRepF, wAsgH, DV.hN, hIx, hCons, hNil, hTup, wLM, gCnt, gIdx, gList, gSorted, wDctO, wPar3, wAppPop, wRaise0, wRaise1, wTry, wIsE, wAct, wFl, flD, gAnyX, gSumX, wCatF, wSSet, wLstR1, wLstR2, wTupR1, wFld, sw, List.flatten_cons, List.flatten_nil]
  refine fun _ => ⟨by unfold big; decide, ?_⟩
  refine g0 _ _ ?_
  (try simp only [wSeq, wAsg, wOwn, wF, wLc, wSkip, wBrk, wCnt, wRet, wRetF, wRetN, wDrop, wIfS, wPar, wFor, wWh, wV, wApp, wExt, wSetIx, wAug, wVal, wLook, wC, wOp, wTst, wChain, wAnd, wOr, wNot, wAndV, wOrV, wNotV, wIf, wNil, wCons, wTup, wLst, wCall, wCB, wIsT, wiR1, wiR2, wiSq, wiEn, wiZip, gN, gT1, gT2, gT3, gT4, gT5, gT6, gT7, wYes, gAdd, DV.gSub, gMul, gMod, gDiv, gPow, gLt, gLe, gGt, gGe, gCmp, gEq, gNe, gIs, gIsN, DV.isNon, gIn, gNotIn, gIx, gSlc, wSlc, wNoP, wPart, gLen, gAbs, gInt, gMin2, gMax2, gAll, gAny, gSum, gTuple, wNeg, wRev, wRevX, itemsOf, D.isTy, D.isHand, Sl.toD, big_0, big_1, big_2, big_3, big_4, big_5, big_6, big_7, big_8, big_9, big_10, big_11, big_12, draw_iff, own_ex, val_ex, wipeE, restE, Sl.keep, Option.getD_some, get_z, get_s, set_z, set_s, List.length_cons, List.length_nil, atI_0, atI_1, atI_2, atI_3, atI_4, ixN_5_0, ixN_5_1, ixN_5_2, ixN_5_3, ixN_5_4, D.bl.injEq, D.int.injEq, D.lst.injEq, D.tup.injEq, D.str.injEq, Sl.own.injEq, Sl.val.injEq, Option.some.injEq, exists_eq_left', exists_eq_left, exists_eq', exists_eq, or_true, true_or, or_false, false_or, CMul, CPow, natAbs_10, natAbs_2, Int.cast_ofNat_Int, Nat.reducePow, exists_and_left, exists_const, and_assoc, true_and, and_true, and_self, false_and, and_false, if_true, if_false, ite_true, ite_false, reduceCtorEq, decide_true, decide_false, decide_eq_true_eq, decide_eq_false_iff_not, Bool.not_true, Bool.not_false, Bool.false_eq_true, List.replicate_zero, List.replicate_succ, List.map_cons, List.map_nil, List.nil_append, List.cons_append, Nat.reduceSub, Nat.reduceAdd, Nat.reduceLeDiff, Nat.reduceLT, Int.reduceLT, Int.reduceLE, Int.reduceAdd, Int.reduceSub, Int.reduceMul, Int.reduceNeg, Int.reduceMod, Int.reduceDiv, Int.reducePow, Int.reduceToNat, okD_int, okD_bl, okD_lst, okD_tup, okD_non, okL_nil, okL_cons, okD_str, okL_int, eqD_int, eqD_bl, eqD_str, eqD_tup, eqD_lst, eqL_cons, eqL_nil, eqL_cn, eqL_nc, eqL_int, Bool.and_eq_true, Bool.or_eq_true, Bool.not_eq_true', Bool.and_false, Bool.false_and, Bool.or_false, Bool.false_or, Bool.or_true, Bool.true_or, Bool.and_true, Bool.true_and, Bool.and_self, wIsT2, wDct0, wLstOf, wRepF, wAsgH, DV.hN, hIx, hCons, hNil, hTup, wLM, gCnt, gIdx, gList, gSorted, wDctO, wPar3, wAppPop, wRaise0, wRaise1, wTry, wIsE, wAct, wFl, flD, gAnyX, gSumX, wCatF, wSSet, wLstR1, wLstR2, wTupR1, wFld])
  exact h _ _
def things (s : Int) (w : List Int) (bad : D) : List D := [.lst (w.map D.int), .non, .str "?", .int 0, .tup [.int s], .tup [.bl true], .tup [.int (-1)], .tup Z25, bad]
theorem things_bad {w : List Int} {bad : D} (hb : Bad s bad) : ∀ d ∈ things s w bad, Bad s d := by
  intro d hd
  unfold things at hd
  simp only [List.mem_cons, List.not_mem_nil, or_false] at hd
  rcases hd with rfl | rfl | rfl | rfl | rfl | rfl | rfl | rfl | rfl
  · exact bad_nt rfl fun xs e => by cases e
  · exact bad_nt rfl fun xs e => by cases e
  · exact bad_nt rfl fun xs e => by cases e
  · exact bad_nt rfl fun xs e => by cases e
  · exact bad_s
  · exact bad_t
  · exact bad_m
  · exact bad_25
  · exact hb
theorem law_13 (o : SchOk s m R) {w : List Int} {bad : D} (hbad : Bad s bad) {x2 x5 x7 x9 x10 : Sl} {P : Post} (h : ∀ (x9 x10 : Sl), P.nx [.no, .val .hand, x2, .val (dSch s m R), .val (.int s), x5, .val (.tup (w.map D.int)), x7, .val bad, x9, x10, .no]) :
    B_law_13 [.no, .val .hand, x2, .val (dSch s m R), .val (.int s), x5, .val (.tup (w.map D.int)), x7, .val bad, x9, x10, .no] P := by
  unfold B_law_13
  refine for_seq (xs := things s w bad) (fun Q E hk => ?_) (by unfold things; simp) ?_
  · unfold things at hk
    simp only [wSeq, wAsg, wOwn, wF, wLc, wSkip, wBrk, wCnt, wRet, wRetF, wRetN, wDrop, wIfS, wPar, wFor, wWh, wV, wApp, wExt, wSetIx, wAug, wVal, wLook, wC, wOp, wTst, wChain, wAnd, wOr, wNot, wAndV, wOrV, wNotV, wIf, wNil, wCons, wTup, wLst, wCall, wCB, wIsT, wiR1, wiR2, wiSq, wiEn, wiZip, gN, gT1, gT2, gT3, gT4, gT5, gT6, gT7, wYes, gAdd, DV.gSub, gMul, gMod, gDiv, gPow, gLt, gLe, gGt, gGe, gCmp, gEq, gNe, gIs, gIsN, DV.isNon, gIn, gNotIn, gIx, gSlc, wSlc, wNoP, wPart, gLen, gAbs, gInt, gMin2, gMax2, gAll, gAny, gSum, gTuple, wNeg, wRev, wRevX, itemsOf, D.isTy, D.isHand, Sl.toD, big_0, big_1, big_2, big_3, big_4, big_5, big_6, big_7, big_8, big_9, big_10, big_11, big_12, draw_iff, own_ex, val_ex, wipeE, restE, Sl.keep, Option.getD_some, get_z, get_s, set_z, set_s, List.length_cons, List.length_nil, atI_0, atI_1, atI_2, atI_3, atI_4, ixN_5_0, ixN_5_1, ixN_5_2, ixN_5_3, ixN_5_4, D.bl.injEq, D.int.injEq, D.lst.injEq, D.tup.injEq, D.str.injEq, Sl.own.injEq, Sl.val.injEq, Option.some.injEq, exists_eq_left', exists_eq_left, exists_eq', exists_eq, or_true, true_or, or_false, false_or, CMul, CPow, natAbs_10, natAbs_2, Int.cast_ofNat_Int, Nat.reducePow, exists_and_left, exists_const, and_assoc, true_and, and_true, and_self, false_and, and_false, if_true, if_false, ite_true, ite_false, reduceCtorEq, decide_true, decide_false, decide_eq_true_eq, decide_eq_false_iff_not, Bool.not_true, Bool.not_false, Bool.false_eq_true, List.map_cons, List.map_nil, List.nil_append, List.cons_append, Nat.reduceSub, Nat.reduceAdd, Nat.reduceLeDiff, Nat.reduceLT, Int.reduceLT, Int.reduceLE, Int.reduceAdd, Int.reduceSub, Int.reduceMul, Int.reduceNeg, Int.reduceMod, Int.reduceDiv, Int.reducePow, Int.reduceToNat, okD_int, okD_bl, okD_lst, okD_tup, okD_non, okL_nil, okL_cons, okD_str, okL_int, eqD_int, eqD_bl, eqD_str, eqD_tup, eqD_lst, eqL_cons, eqL_nil, eqL_cn, eqL_nc, eqL_int, Bool.and_eq_true, Bool.or_eq_true, Bool.not_eq_true', Bool.and_false, Bool.false_and, Bool.or_false, Bool.false_or, Bool.or_true, Bool.true_or, Bool.and_true, Bool.true_and, Bool.and_self, wIsT2, wDct0, wLstOf, wRepF, wAsgH, DV.hN, hIx, hCons, hNil, hTup, wLM, gCnt, gIdx, gList, gSorted, wDctO, wPar3, wAppPop, wRaise0, wRaise1, wTry, wIsE, wAct, wFl, flD, gAnyX, gSumX, wCatF, wSSet, wLstR1, wLstR2, wTupR1, wFld, z25, z25_len]
    exact ⟨by simp, hk⟩
  refine for_ind (fun rest env => (∀ d ∈ rest, Bad s d) ∧ ∃ s9 : Sl, env = [.no, .val .hand, x2, .val (dSch s m R), .val (.int s), x5, .val (.tup (w.map D.int)), x7, .val bad, s9, x10, .no]) (fun env hI => ?_) (fun d rest env hI nx hn => ?_) ⟨things_bad hbad, _, rfl⟩
  · obtain ⟨_, s9, rfl⟩ := hI
    exact law_16 o hbad h
  · obtain ⟨hr, s9, rfl⟩ := hI
    have hd := hr d List.mem_cons_self
    unfold B_law_14
    (try simp only [wSeq, wAsg, wOwn, wF, wLc, wSkip, wBrk, wCnt, wRet, wRetF, wRetN, wDrop, wIfS, wPar, wFor, wWh, wV, wApp, wExt, wSetIx, wAug, wVal, wLook, wC, wOp, wTst, wChain, wAnd, wOr, wNot, wAndV, wOrV, wNotV, wIf, wNil, wCons, wTup, wLst, wCall, wCB, wIsT, wiR1, wiR2, wiSq, wiEn, wiZip, gN, gT1, gT2, gT3, gT4, gT5, gT6, gT7, wYes, gAdd, DV.gSub, gMul, gMod, gDiv, gPow, gLt, gLe, gGt, gGe, gCmp, gEq, gNe, gIs, gIsN, DV.isNon, gIn, gNotIn, gIx, gSlc, wSlc, wNoP, wPart, gLen, gAbs, gInt, gMin2, gMax2, gAll, gAny, gSum, gTuple, wNeg, wRev, wRevX, itemsOf, D.isTy, D.isHand, Sl.toD, big_0, big_1, big_2, big_3, big_4, big_5, big_6, big_7, big_8, big_9, big_10, big_11, big_12, draw_iff, own_ex, val_ex, wipeE, restE, Sl.keep, Option.getD_some, get_z, get_s, set_z, set_s, List.length_cons, List.length_nil, atI_0, atI_1, atI_2, atI_3, atI_4, ixN_5_0, ixN_5_1, ixN_5_2, ixN_5_3, ixN_5_4, D.bl.injEq, D.int.injEq, D.lst.injEq, D.tup.injEq, D.str.injEq, Sl.own.injEq, Sl.val.injEq, Option.some.injEq, exists_eq_left', exists_eq_left, exists_eq', exists_eq, or_true, true_or, or_false, false_or, CMul, CPow, natAbs_10, natAbs_2, Int.cast_ofNat_Int, Nat.reducePow, exists_and_left, exists_const, and_assoc, true_and, and_true, and_self, false_and, and_false, if_true, if_false, ite_true, ite_false, reduceCtorEq, decide_true, decide_false, decide_eq_true_eq, decide_eq_false_iff_not, Bool.not_true, Bool.not_false, Bool.false_eq_true, List.replicate_zero, List.replicate_succ, List.map_cons, List.map_nil, List.nil_append, List.cons_append, Nat.reduceSub, Nat.reduceAdd, Nat.reduceLeDiff, Nat.reduceLT, Int.reduceLT, Int.reduceLE, Int.reduceAdd, Int.reduceSub, Int.reduceMul, Int.reduceNeg, Int.reduceMod, Int.reduceDiv, Int.reducePow, Int.reduceToNat, okD_int, okD_bl, okD_lst, okD_tup, okD_non, okL_nil, okL_cons, okD_str, okL_int, eqD_int, eqD_bl, eqD_str, eqD_tup, eqD_lst, eqL_cons, eqL_nil, eqL_cn, eqL_nc, eqL_int, Bool.and_eq_true, Bool.or_eq_true, Bool.not_eq_true', Bool.and_false, Bool.false_and, Bool.or_false, Bool.false_or, Bool.or_true, Bool.true_or, Bool.and_true, Bool.true_and, Bool.and_self, wIsT2, wDct0, wLstOf, wRepF, wAsgH, DV.hN, hIx, hCons, hNil, hTup, wLM, gCnt, gIdx, gList, gSorted, wDctO, wPar3, wAppPop, wRaise0, wRaise1, wTry, wIsE, wAct, wFl, flD, gAnyX, gSumX, wCatF, wSSet, wLstR1, wLstR2, wTupR1, wFld])
    refine sp_is_good_bad hd.1 hd.2 ?_
    (try simp only [wSeq, wAsg, wOwn, wF, wLc, wSkip, wBrk, wCnt, wRet, wRetF, wRetN, wDrop, wIfS, wPar, wFor, wWh, wV, wApp, wExt, wSetIx, wAug, wVal, wLook, wC, wOp, wTst, wChain, wAnd, wOr, wNot, wAndV, wOrV, wNotV, wIf, wNil, wCons, wTup, wLst, wCall, wCB, wIsT, wiR1, wiR2, wiSq, wiEn, wiZip, gN, gT1, gT2, gT3, gT4, gT5, gT6, gT7, wYes, gAdd, DV.gSub, gMul, gMod, gDiv, gPow, gLt, gLe, gGt, gGe, gCmp, gEq, gNe, gIs, gIsN, DV.isNon, gIn, gNotIn, gIx, gSlc, wSlc, wNoP, wPart, gLen, gAbs, gInt, gMin2, gMax2, gAll, gAny, gSum, gTuple, wNeg, wRev, wRevX, itemsOf, D.isTy, D.isHand, Sl.toD, big_0, big_1, big_2, big_3, big_4, big_5, big_6, big_7, big_8, big_9, big_10, big_11, big_12, draw_iff, own_ex, val_ex, wipeE, restE, Sl.keep, Option.getD_some, get_z, get_s, set_z, set_s, List.length_cons, List.length_nil, atI_0, atI_1, atI_2, atI_3, atI_4, ixN_5_0, ixN_5_1, ixN_5_2, ixN_5_3, ixN_5_4, D.bl.injEq, D.int.injEq, D.lst.injEq, D.tup.injEq, D.str.injEq, Sl.own.injEq, Sl.val.injEq, Option.some.injEq, exists_eq_left', exists_eq_left, exists_eq', exists_eq, or_true, true_or, or_false, false_or, CMul, CPow, natAbs_10, natAbs_2, Int.cast_ofNat_Int, Nat.reducePow, exists_and_left, exists_const, and_assoc, true_and, and_true, and_self, false_and, and_false, if_true, if_false, ite_true, ite_false, reduceCtorEq, decide_true, decide_false, decide_eq_true_eq, decide_eq_false_iff_not, Bool.not_true, Bool.not_false, Bool.false_eq_true, List.replicate_zero, List.replicate_succ, List.map_cons, List.map_nil, List.nil_append, List.cons_append, Nat.reduceSub, Nat.reduceAdd, Nat.reduceLeDiff, Nat.reduceLT, Int.reduceLT, Int.reduceLE, Int.reduceAdd, Int.reduceSub, Int.reduceMul, Int.reduceNeg, Int.reduceMod, Int.reduceDiv, Int.reducePow, Int.reduceToNat, okD_int, okD_bl, okD_lst, okD_tup, okD_non, okL_nil, okL_cons, okD_str, okL_int, eqD_int, eqD_bl, eqD_str, eqD_tup, eqD_lst, eqL_cons, eqL_nil, eqL_cn, eqL_nc, eqL_int, Bool.and_eq_true, Bool.or_eq_true, Bool.not_eq_true', Bool.and_false, Bool.false_and, Bool.or_false, Bool.false_or, Bool.or_true, Bool.true_or, Bool.and_true, Bool.true_and, Bool.and_self, wIsT2, wDct0, wLstOf, wRepF, wAsgH, DV.hN, hIx, hCons, hNil, hTup, wLM, gCnt, gIdx, gList, gSorted, wDctO, wPar3, wAppPop, wRaise0, wRaise1, wTry, wIsE, wAct, wFl, flD, gAnyX, gSumX, wCatF, wSSet, wLstR1, wLstR2, wTupR1, wFld])
    exact hn _ ⟨fun d h => hr d (List.mem_cons_of_mem _ h), _, rfl⟩
def bads (s : Int) : List D := [.non, .lst [.int 0], .tup [.int s], .tup [.int (-1)], .tup [.bl true], .str "?", .tup [.non], .tup Z25, .int 0]
theorem bads_bad : ∀ d ∈ bads s, Bad s d := by
  intro d hd
  unfold bads at hd
  simp only [List.mem_cons, List.not_mem_nil, or_false] at hd
  rcases hd with rfl | rfl | rfl | rfl | rfl | rfl | rfl | rfl | rfl
  · exact bad_nt rfl fun xs e => by cases e
  · exact bad_nt rfl fun xs e => by cases e
  · exact bad_s
  · exact bad_m
  · exact bad_t
  · exact bad_nt rfl fun xs e => by cases e
  · exact bad_n
  · exact bad_25
  · exact bad_nt rfl fun xs e => by cases e
theorem law_12 (o : SchOk s m R) {w : List Int} {x2 x5 x7 x8 x9 x10 : Sl} {P : Post} (h : ∀ (x8 x9 x10 : Sl), P.nx [.no, .val .hand, x2, .val (dSch s m R), .val (.int s), x5, .val (.tup (w.map D.int)), x7, x8, x9, x10, .no]) :
    B_law_12 [.no, .val .hand, x2, .val (dSch s m R), .val (.int s), x5, .val (.tup (w.map D.int)), x7, x8, x9, x10, .no] P := by
  unfold B_law_12
  refine any_seq 8 1 (xs := bads s) rfl (fun Q E hk => ?_) (by unfold bads; simp) (by unfold bads; simp) fun bad hb => ?_
  · unfold bads at hk
    simp only [wSeq, wAsg, wOwn, wF, wLc, wSkip, wBrk, wCnt, wRet, wRetF, wRetN, wDrop, wIfS, wPar, wFor, wWh, wV, wApp, wExt, wSetIx, wAug, wVal, wLook, wC, wOp, wTst, wChain, wAnd, wOr, wNot, wAndV, wOrV, wNotV, wIf, wNil, wCons, wTup, wLst, wCall, wCB, wIsT, wiR1, wiR2, wiSq, wiEn, wiZip, gN, gT1, gT2, gT3, gT4, gT5, gT6, gT7, wYes, gAdd, DV.gSub, gMul, gMod, gDiv, gPow, gLt, gLe, gGt, gGe, gCmp, gEq, gNe, gIs, gIsN, DV.isNon, gIn, gNotIn, gIx, gSlc, wSlc, wNoP, wPart, gLen, gAbs, gInt, gMin2, gMax2, gAll, gAny, gSum, gTuple, wNeg, wRev, wRevX, itemsOf, D.isTy, D.isHand, Sl.toD, big_0, big_1, big_2, big_3, big_4, big_5, big_6, big_7, big_8, big_9, big_10, big_11, big_12, draw_iff, own_ex, val_ex, wipeE, restE, Sl.keep, Option.getD_some, get_z, get_s, set_z, set_s, List.length_cons, List.length_nil, atI_0, atI_1, atI_2, atI_3, atI_4, ixN_5_0, ixN_5_1, ixN_5_2, ixN_5_3, ixN_5_4, D.bl.injEq, D.int.injEq, D.lst.injEq, D.tup.injEq, D.str.injEq, Sl.own.injEq, Sl.val.injEq, Option.some.injEq, exists_eq_left', exists_eq_left, exists_eq', exists_eq, or_true, true_or, or_false, false_or, CMul, CPow, natAbs_10, natAbs_2, Int.cast_ofNat_Int, Nat.reducePow, exists_and_left, exists_const, and_assoc, true_and, and_true, and_self, false_and, and_false, if_true, if_false, ite_true, ite_false, reduceCtorEq, decide_true, decide_false, decide_eq_true_eq, decide_eq_false_iff_not, Bool.not_true, Bool.not_false, Bool.false_eq_true, List.map_cons, List.map_nil, List.nil_append, List.cons_append, Nat.reduceSub, Nat.reduceAdd, Nat.reduceLeDiff, Nat.reduceLT, Int.reduceLT, Int.reduceLE, Int.reduceAdd, Int.reduceSub, Int.reduceMul, Int.reduceNeg, Int.reduceMod, Int.reduceDiv, Int.reducePow, Int.reduceToNat, okD_int, okD_bl, okD_lst, okD_tup, okD_non, okL_nil, okL_cons, okD_str, okL_int, eqD_int, eqD_bl, eqD_str, eqD_tup, eqD_lst, eqL_cons, eqL_nil, eqL_cn, eqL_nc, eqL_int, Bool.and_eq_true, Bool.or_eq_true, Bool.not_eq_true', Bool.and_false, Bool.false_and, Bool.or_false, Bool.false_or, Bool.or_true, Bool.true_or, Bool.and_true, Bool.true_and, Bool.and_self, wIsT2, wDct0, wLstOf, wRepF, wAsgH, DV.hN, hIx, hCons, hNil, hTup, wLM, gCnt, gIdx, gList, gSorted, wDctO, wPar3, wAppPop, wRaise0, wRaise1, wTry, wIsE, wAct, wFl, flD, gAnyX, gSumX, wCatF, wSSet, wLstR1, wLstR2, wTupR1, wFld, z25, z25_len]
    exact fun _ => ⟨by simp, hk⟩
  · (try simp only [wSeq, wAsg, wOwn, wF, wLc, wSkip, wBrk, wCnt, wRet, wRetF, wRetN, wDrop, wIfS, wPar, wFor, wWh, wV, wApp, wExt, wSetIx, wAug, wVal, wLook, wC, wOp, wTst, wChain, wAnd, wOr, wNot, wAndV, wOrV, wNotV, wIf, wNil, wCons, wTup, wLst, wCall, wCB, wIsT, wiR1, wiR2, wiSq, wiEn, wiZip, gN, gT1, gT2, gT3, gT4, gT5, gT6, gT7, wYes, gAdd, DV.gSub, gMul, gMod, gDiv, gPow, gLt, gLe, gGt, gGe, gCmp, gEq, gNe, gIs, gIsN, DV.isNon, gIn, gNotIn, gIx, gSlc, wSlc, wNoP, wPart, gLen, gAbs, gInt, gMin2, gMax2, gAll, gAny, gSum, gTuple, wNeg, wRev, wRevX, itemsOf, D.isTy, D.isHand, Sl.toD, big_0, big_1, big_2, big_3, big_4, big_5, big_6, big_7, big_8, big_9, big_10, big_11, big_12, draw_iff, own_ex, val_ex, wipeE, restE, Sl.keep, Option.getD_some, get_z, get_s, set_z, set_s, List.length_cons, List.length_nil, atI_0, atI_1, atI_2, atI_3, atI_4, ixN_5_0, ixN_5_1, ixN_5_2, ixN_5_3, ixN_5_4, D.bl.injEq, D.int.injEq, D.lst.injEq, D.tup.injEq, D.str.injEq, Sl.own.injEq, Sl.val.injEq, Option.some.injEq, exists_eq_left', exists_eq_left, exists_eq', exists_eq, or_true, true_or, or_false, false_or, CMul, CPow, natAbs_10, natAbs_2, Int.cast_ofNat_Int, Nat.reducePow, exists_and_left, exists_const, and_assoc, true_and, and_true, and_self, false_and, and_false, if_true, if_false, ite_true, ite_false, reduceCtorEq, decide_true, decide_false, decide_eq_true_eq, decide_eq_false_iff_not, Bool.not_true, Bool.not_false, Bool.false_eq_true, List.replicate_zero, List.replicate_succ, List.map_cons, List.map_nil, List.nil_append, List.cons_append, Nat.reduceSub, Nat.reduceAdd, Nat.reduceLeDiff, Nat.reduceLT, Int.reduceLT, Int.reduceLE, Int.reduceAdd, Int.reduceSub, Int.reduceMul, Int.reduceNeg, Int.reduceMod, Int.reduceDiv, Int.reducePow, Int.reduceToNat, okD_int, okD_bl, okD_lst, okD_tup, okD_non, okL_nil, okL_cons, okD_str, okL_int, eqD_int, eqD_bl, eqD_str, eqD_tup, eqD_lst, eqL_cons, eqL_nil, eqL_cn, eqL_nc, eqL_int, Bool.and_eq_true, Bool.or_eq_true, Bool.not_eq_true', Bool.and_false, Bool.false_and, Bool.or_false, Bool.false_or, Bool.or_true, Bool.true_or, Bool.and_true, Bool.true_and, Bool.and_self, wIsT2, wDct0, wLstOf, wRepF, wAsgH, DV.hN, hIx, hCons, hNil, hTup, wLM, gCnt, gIdx, gList, gSorted, wDctO, wPar3, wAppPop, wRaise0, wRaise1, wTry, wIsE, wAct, wFl, flD, gAnyX, gSumX, wCatF, wSSet, wLstR1, wLstR2, wTupR1, wFld])
    exact law_13 o (bads_bad bad hb) fun x9 x10 => h _ x9 x10
theorem law_3 {x2 x3 x4 x5 x6 x7 x8 x9 x10 : Sl} {P : Post} (h : ∀ (x3 x4 x5 x6 x7 x8 x9 x10 : Sl), P.nx [.no, .val .hand, x2, x3, x4, x5, x6, x7, x8, x9, x10, .no]) :
    B_law_3 [.no, .val .hand, x2, x3, x4, x5, x6, x7, x8, x9, x10, .no] P := by
  unfold B_law_3
  (try simp only [wSeq, wAsg, wOwn, wF, wLc, wSkip, wBrk, wCnt, wRet, wRetF, wRetN, wDrop, wIfS, wPar, wFor, wWh, wV, wApp, wExt, wSetIx, wAug, wVal, wLook, wC, wOp, wTst, wChain, wAnd, wOr, wNot, wAndV, wOrV, wNotV, wIf, wNil, wCons, wTup, wLst, wCall, wCB, wIsT, wiR1, wiR2, wiSq, wiEn, wiZip, gN, gT1, gT2, gT3, gT4, gT5, gT6, gT7, wYes, gAdd, DV.gSub, gMul, gMod, gDiv, gPow, gLt, gLe, gGt, gGe, gCmp, gEq, gNe, gIs, gIsN, DV.isNon, gIn, gNotIn, gIx, gSlc, wSlc, wNoP, wPart, gLen, gAbs, gInt, gMin2, gMax2, gAll, gAny, gSum, gTuple, wNeg, wRev, wRevX, itemsOf, D.isTy, D.isHand, Sl.toD, big_0, big_1, big_2, big_3, big_4, big_5, big_6, big_7, big_8, big_9, big_10, big_11, big_12, draw_iff, own_ex, val_ex, wipeE, restE, Sl.keep, Option.getD_some, get_z, get_s, set_z, set_s, List.length_cons, List.length_nil, atI_0, atI_1, atI_2, atI_3, atI_4, ixN_5_0, ixN_5_1, ixN_5_2, ixN_5_3, ixN_5_4, D.bl.injEq, D.int.injEq, D.lst.injEq, D.tup.injEq, D.str.injEq, Sl.own.injEq, Sl.val.injEq, Option.some.injEq, exists_eq_left', exists_eq_left, exists_eq', exists_eq, or_true, true_or, or_false, false_or, CMul, CPow, natAbs_10, natAbs_2, Int.cast_ofNat_Int, Nat.reducePow, exists_and_left, exists_const, and_assoc, true_and, and_true, and_self, false_and, and_false, if_true, if_false, ite_true, ite_false, reduceCtorEq, decide_true, decide_false, decide_eq_true_eq, decide_eq_false_iff_not, Bool.not_true, Bool.not_false, Bool.false_eq_true, List.replicate_zero, List.replicate_succ, List.map_cons, List.map_nil, List.nil_append, List.cons_append, Nat.reduceSub, Nat.reduceAdd, Nat.reduceLeDiff, Nat.reduceLT, Int.reduceLT, Int.reduceLE, Int.reduceAdd, Int.reduceSub, Int.reduceMul, Int.reduceNeg, Int.reduceMod, Int.reduceDiv, Int.reducePow, Int.reduceToNat, okD_int, okD_bl, okD_lst, okD_tup, okD_non, okL_nil, okL_cons, okD_str, okL_int, eqD_int, eqD_bl, eqD_str, eqD_tup, eqD_lst, eqL_cons, eqL_nil, eqL_cn, eqL_nc, eqL_int, Bool.and_eq_true, Bool.or_eq_true, Bool.not_eq_true', Bool.and_false, Bool.false_and, Bool.or_false, Bool.false_or, Bool.or_true, Bool.true_or, Bool.and_true, Bool.true_and, Bool.and_self, wIsT2, wDct0, wLstOf, wRepF, wAsgH, DV.hN, hIx, hCons, hNil, hTup, wLM, gCnt, gIdx, gList, gSorted, wDctO, wPar3, wAppPop, wRaise0, wRaise1, wTry, wIsE, wAct, wFl, flD, gAnyX, gSumX, wCatF, wSSet, wLstR1, wLstR2, wTupR1, wFld])
  refine sp_law_scheme (by decide) (by decide) fun s m R o hs => ?_
  (try simp only [wSeq, wAsg, wOwn, wF, wLc, wSkip, wBrk, wCnt, wRet, wRetF, wRetN, wDrop, wIfS, wPar, wFor, wWh, wV, wApp, wExt, wSetIx, wAug, wVal, wLook, wC, wOp, wTst, wChain, wAnd, wOr, wNot, wAndV, wOrV, wNotV, wIf, wNil, wCons, wTup, wLst, wCall, wCB, wIsT, wiR1, wiR2, wiSq, wiEn, wiZip, gN, gT1, gT2, gT3, gT4, gT5, gT6, gT7, wYes, gAdd, DV.gSub, gMul, gMod, gDiv, gPow, gLt, gLe, gGt, gGe, gCmp, gEq, gNe, gIs, gIsN, DV.isNon, gIn, gNotIn, gIx, gSlc, wSlc, wNoP, wPart, gLen, gAbs, gInt, gMin2, gMax2, gAll, gAny, gSum, gTuple, wNeg, wRev, wRevX, itemsOf, D.isTy, D.isHand, Sl.toD, big_0, big_1, big_2, big_3, big_4, big_5, big_6, big_7, big_8, big_9, big_10, big_11, big_12, draw_iff, own_ex, val_ex, wipeE, restE, Sl.keep, Option.getD_some, get_z, get_s, set_z, set_s, List.length_cons, List.length_nil, atI_0, atI_1, atI_2, atI_3, atI_4, ixN_5_0, ixN_5_1, ixN_5_2, ixN_5_3, ixN_5_4, D.bl.injEq, D.int.injEq, D.lst.injEq, D.tup.injEq, D.str.injEq, Sl.own.injEq, Sl.val.injEq, Option.some.injEq, exists_eq_left', exists_eq_left, exists_eq', exists_eq, or_true, true_or, or_false, false_or, CMul, CPow, natAbs_10, natAbs_2, Int.cast_ofNat_Int, Nat.reducePow, exists_and_left, exists_const, and_assoc, true_and, and_true, and_self, false_and, and_false, if_true, if_false, ite_true, ite_false, reduceCtorEq, decide_true, decide_false, decide_eq_true_eq, decide_eq_false_iff_not, Bool.not_true, Bool.not_false, Bool.false_eq_true, List.replicate_zero, List.replicate_succ, List.map_cons, List.map_nil, List.nil_append, List.cons_append, Nat.reduceSub, Nat.reduceAdd, Nat.reduceLeDiff, Nat.reduceLT, Int.reduceLT, Int.reduceLE, Int.reduceAdd, Int.reduceSub, Int.reduceMul, Int.reduceNeg, Int.reduceMod, Int.reduceDiv, Int.reducePow, Int.reduceToNat, okD_int, okD_bl, okD_lst, okD_tup, okD_non, okL_nil, okL_cons, okD_str, okL_int, eqD_int, eqD_bl, eqD_str, eqD_tup, eqD_lst, eqL_cons, eqL_nil, eqL_cn, eqL_nc, eqL_int, Bool.and_eq_true, Bool.or_eq_true, Bool.not_eq_true', Bool.and_false, Bool.false_and, Bool.or_false, Bool.false_or, Bool.or_true, Bool.true_or, Bool.and_true, Bool.true_and, Bool.and_self, wIsT2, wDct0, wLstOf, wRepF, wAsgH, DV.hN, hIx, hCons, hNil, hTup, wLM, gCnt, gIdx, gList, gSorted, wDctO, wPar3, wAppPop, wRaise0, wRaise1, wTry, wIsE, wAct, wFl, flD, gAnyX, gSumX, wCatF, wSSet, wLstR1, wLstR2, wTupR1, wFld])
  unfold B_law_4
  simp only [wSeq, wAsg, wOwn, wF, wLc, wSkip, wBrk, wCnt, wRet, wRetF, wRetN, wDrop, wIfS, wPar, wFor, wWh, wV, wApp, wExt, wSetIx, wAug, wVal, wLook, wC, wOp, wTst, wChain, wAnd, wOr, wNot, wAndV, wOrV, wNotV, wIf, wNil, wCons, wTup, wLst, wCall, wCB, wIsT, wiR1, wiR2, wiSq, wiEn, wiZip, gN, gT1, gT2, gT3, gT4, gT5, gT6, gT7, wYes, gAdd, DV.gSub, gMul, gMod, gDiv, gPow, gLt, gLe, gGt, gGe, gCmp, gEq, gNe, gIs, gIsN, DV.isNon, gIn, gNotIn, gIx, gSlc, wSlc, wNoP, wPart, gLen, gAbs, gInt, gMin2, gMax2, gAll, gAny, gSum, gTuple, wNeg, wRev, wRevX, itemsOf, D.isTy, D.isHand, Sl.toD, big_0, big_1, big_2, big_3, big_4, big_5, big_6, big_7, big_8, big_9, big_10, big_11, big_12, draw_iff, own_ex, val_ex, wipeE, restE, Sl.keep, Option.getD_some, get_z, get_s, set_z, set_s, List.length_cons, List.length_nil, atI_0, atI_1, atI_2, atI_3, atI_4, ixN_5_0, ixN_5_1, ixN_5_2, ixN_5_3, ixN_5_4, D.bl.injEq, D.int.injEq, D.lst.injEq, D.tup.injEq, D.str.injEq, Sl.own.injEq, Sl.val.injEq, Option.some.injEq, exists_eq_left', exists_eq_left, exists_eq', exists_eq, or_true, true_or, or_false, false_or, CMul, CPow, natAbs_10, natAbs_2, Int.cast_ofNat_Int, Nat.reducePow, exists_and_left, exists_const, and_assoc, true_and, and_true, and_self, false_and, and_false, if_true, if_false, ite_true, ite_false, reduceCtorEq, decide_true, decide_false, decide_eq_true_eq, decide_eq_false_iff_not, Bool.not_true, Bool.not_false, Bool.false_eq_true, List.replicate_zero, List.replicate_succ, List.map_cons, List.map_nil, List.nil_append, List.cons_append, Nat.reduceSub, Nat.reduceAdd, Nat.reduceLeDiff, Nat.reduceLT, Int.reduceLT, Int.reduceLE, Int.reduceAdd, Int.reduceSub, Int.reduceMul, Int.reduceNeg, Int.reduceMod, Int.reduceDiv, Int.reducePow, Int.reduceToNat, okD_int, okD_bl, okD_lst, okD_tup, okD_non, okL_nil, okL_cons, okD_str, okL_int, eqD_int, eqD_bl, eqD_str, eqD_tup, eqD_lst, eqL_cons, eqL_nil, eqL_cn, eqL_nc, eqL_int, Bool.and_eq_true, Bool.or_eq_true, Bool.not_eq_true', Bool.and_false, Bool.false_and, Bool.or_false, Bool.false_or, Bool.or_true, Bool.true_or, Bool.and_true, Bool.true_and, Bool.and_self, wIsT2, wDct0, wLstOf, wRepF, wAsgH, DV.hN, hIx, hCons, hNil, hTup, wLM, gCnt, gIdx, gList, gSorted, wDctO, wPar3, wAppPop, wRaise0, wRaise1, wTry, wIsE, wAct, wFl, flD, gAnyX, gSumX, wCatF, wSSet, wLstR1, wLstR2, wTupR1, wFld, fld_signs]
  unfold B_law_5
  (try simp only [wSeq, wAsg, wOwn, wF, wLc, wSkip, wBrk, wCnt, wRet, wRetF, wRetN, wDrop, wIfS, wPar, wFor, wWh, wV, wApp, wExt, wSetIx, wAug, wVal, wLook, wC, wOp, wTst, wChain, wAnd, wOr, wNot, wAndV, wOrV, wNotV, wIf, wNil, wCons, wTup, wLst, wCall, wCB, wIsT, wiR1, wiR2, wiSq, wiEn, wiZip, gN, gT1, gT2, gT3, gT4, gT5, gT6, gT7, wYes, gAdd, DV.gSub, gMul, gMod, gDiv, gPow, gLt, gLe, gGt, gGe, gCmp, gEq, gNe, gIs, gIsN, DV.isNon, gIn, gNotIn, gIx, gSlc, wSlc, wNoP, wPart, gLen, gAbs, gInt, gMin2, gMax2, gAll, gAny, gSum, gTuple, wNeg, wRev, wRevX, itemsOf, D.isTy, D.isHand, Sl.toD, big_0, big_1, big_2, big_3, big_4, big_5, big_6, big_7, big_8, big_9, big_10, big_11, big_12, draw_iff, own_ex, val_ex, wipeE, restE, Sl.keep, Option.getD_some, get_z, get_s, set_z, set_s, List.length_cons, List.length_nil, atI_0, atI_1, atI_2, atI_3, atI_4, ixN_5_0, ixN_5_1, ixN_5_2, ixN_5_3, ixN_5_4, D.bl.injEq, D.int.injEq, D.lst.injEq, D.tup.injEq, D.str.injEq, Sl.own.injEq, Sl.val.injEq, Option.some.injEq, exists_eq_left', exists_eq_left, exists_eq', exists_eq, or_true, true_or, or_false, false_or, CMul, CPow, natAbs_10, natAbs_2, Int.cast_ofNat_Int, Nat.reducePow, exists_and_left, exists_const, and_assoc, true_and, and_true, and_self, false_and, and_false, if_true, if_false, ite_true, ite_false, reduceCtorEq, decide_true, decide_false, decide_eq_true_eq, decide_eq_false_iff_not, Bool.not_true, Bool.not_false, Bool.false_eq_true, List.replicate_zero, List.replicate_succ, List.map_cons, List.map_nil, List.nil_append, List.cons_append, Nat.reduceSub, Nat.reduceAdd, Nat.reduceLeDiff, Nat.reduceLT, Int.reduceLT, Int.reduceLE, Int.reduceAdd, Int.reduceSub, Int.reduceMul, Int.reduceNeg, Int.reduceMod, Int.reduceDiv, Int.reducePow, Int.reduceToNat, okD_int, okD_bl, okD_lst, okD_tup, okD_non, okL_nil, okL_cons, okD_str, okL_int, eqD_int, eqD_bl, eqD_str, eqD_tup, eqD_lst, eqL_cons, eqL_nil, eqL_cn, eqL_nc, eqL_int, Bool.and_eq_true, Bool.or_eq_true, Bool.not_eq_true', Bool.and_false, Bool.false_and, Bool.or_false, Bool.false_or, Bool.or_true, Bool.true_or, Bool.and_true, Bool.true_and, Bool.and_self, wIsT2, wDct0, wLstOf, wRepF, wAsgH, DV.hN, hIx, hCons, hNil, hTup, wLM, gCnt, gIdx, gList, gSorted, wDctO, wPar3, wAppPop, wRaise0, wRaise1, wTry, wIsE, wAct, wFl, flD, gAnyX, gSumX, wCatF, wSSet, wLstR1, wLstR2, wTupR1, wFld])
  refine DV.for_range (lo := 0) (hi := 4) (fun k env => ∃ x5 x6 x7 : Sl, (1 ≤ k → ∃ w : List Int, x6 = .val (.tup (w.map D.int))) ∧ env = [.no, .val .hand, x2, .val (dSch s m R), .val (.int s), x5, x6, x7, x8, x9, x10, .no]) ⟨_, _, _, fun z => by omega, rfl⟩ (fun env hI => ?_) (fun k env hk hI nx hn => ?_)
  · obtain ⟨x5, x6, x7, hw, rfl⟩ := hI
    obtain ⟨w, rfl⟩ := hw (by decide)
    exact law_12 o fun x8 x9 x10 => h _ _ _ _ _ _ _ _
  · obtain ⟨x5, x6, x7, hw, rfl⟩ := hI
    (try simp only [wSeq, wAsg, wOwn, wF, wLc, wSkip, wBrk, wCnt, wRet, wRetF, wRetN, wDrop, wIfS, wPar, wFor, wWh, wV, wApp, wExt, wSetIx, wAug, wVal, wLook, wC, wOp, wTst, wChain, wAnd, wOr, wNot, wAndV, wOrV, wNotV, wIf, wNil, wCons, wTup, wLst, wCall, wCB, wIsT, wiR1, wiR2, wiSq, wiEn, wiZip, gN, gT1, gT2, gT3, gT4, gT5, gT6, gT7, wYes, gAdd, DV.gSub, gMul, gMod, gDiv, gPow, gLt, gLe, gGt, gGe, gCmp, gEq, gNe, gIs, gIsN, DV.isNon, gIn, gNotIn, gIx, gSlc, wSlc, wNoP, wPart, gLen, gAbs, gInt, gMin2, gMax2, gAll, gAny, gSum, gTuple, wNeg, wRev, wRevX, itemsOf, D.isTy, D.isHand, Sl.toD, big_0, big_1, big_2, big_3, big_4, big_5, big_6, big_7, big_8, big_9, big_10, big_11, big_12, draw_iff, own_ex, val_ex, wipeE, restE, Sl.keep, Option.getD_some, get_z, get_s, set_z, set_s, List.length_cons, List.length_nil, atI_0, atI_1, atI_2, atI_3, atI_4, ixN_5_0, ixN_5_1, ixN_5_2, ixN_5_3, ixN_5_4, D.bl.injEq, D.int.injEq, D.lst.injEq, D.tup.injEq, D.str.injEq, Sl.own.injEq, Sl.val.injEq, Option.some.injEq, exists_eq_left', exists_eq_left, exists_eq', exists_eq, or_true, true_or, or_false, false_or, CMul, CPow, natAbs_10, natAbs_2, Int.cast_ofNat_Int, Nat.reducePow, exists_and_left, exists_const, and_assoc, true_and, and_true, and_self, false_and, and_false, if_true, if_false, ite_true, ite_false, reduceCtorEq, decide_true, decide_false, decide_eq_true_eq, decide_eq_false_iff_not, Bool.not_true, Bool.not_false, Bool.false_eq_true, List.replicate_zero, List.replicate_succ, List.map_cons, List.map_nil, List.nil_append, List.cons_append, Nat.reduceSub, Nat.reduceAdd, Nat.reduceLeDiff, Nat.reduceLT, Int.reduceLT, Int.reduceLE, Int.reduceAdd, Int.reduceSub, Int.reduceMul, Int.reduceNeg, Int.reduceMod, Int.reduceDiv, Int.reducePow, Int.reduceToNat, okD_int, okD_bl, okD_lst, okD_tup, okD_non, okL_nil, okL_cons, okD_str, okL_int, eqD_int, eqD_bl, eqD_str, eqD_tup, eqD_lst, eqL_cons, eqL_nil, eqL_cn, eqL_nc, eqL_int, Bool.and_eq_true, Bool.or_eq_true, Bool.not_eq_true', Bool.and_false, Bool.false_and, Bool.or_false, Bool.false_or, Bool.or_true, Bool.true_or, Bool.and_true, Bool.true_and, Bool.and_self, wIsT2, wDct0, wLstOf, wRepF, wAsgH, DV.hN, hIx, hCons, hNil, hTup, wLM, gCnt, gIdx, gList, gSorted, wDctO, wPar3, wAppPop, wRaise0, wRaise1, wTry, wIsE, wAct, wFl, flD, gAnyX, gSumX, wCatF, wSSet, wLstR1, wLstR2, wTupR1, wFld])
    refine law_6 o fun w x7 hW => hn _ ⟨_, _, _, fun _ => ⟨w, rfl⟩, rfl⟩
end
def R2 : List (List (List Int)) := [[[0, 1], [1, 0]]]
theorem r2_ok : SchOk 2 2 R2 := ⟨by decide, by decide, by decide, by decide, by decide, by decide, by decide⟩
theorem hb_law : B_law (.no :: .val .hand :: List.replicate (12 - 2) .no) { nx := fun _ => False, rt := fun d _ => d = .bl true, bk := fun _ => False, ct := fun _ => False, ex := fun _ _ => False } := by
  unfold B_law
  (try simp only [wSeq, wAsg, wOwn, wF, wLc, wSkip, wBrk, wCnt, wRet, wRetF, wRetN, wDrop, wIfS, wPar, wFor, wWh, wV, wApp, wExt, wSetIx, wAug, wVal, wLook, wC, wOp, wTst, wChain, wAnd, wOr, wNot, wAndV, wOrV, wNotV, wIf, wNil, wCons, wTup, wLst, wCall, wCB, wIsT, wiR1, wiR2, wiSq, wiEn, wiZip, gN, gT1, gT2, gT3, gT4, gT5, gT6, gT7, wYes, gAdd, DV.gSub, gMul, gMod, gDiv, gPow, gLt, gLe, gGt, gGe, gCmp, gEq, gNe, gIs, gIsN, DV.isNon, gIn, gNotIn, gIx, gSlc, wSlc, wNoP, wPart, gLen, gAbs, gInt, gMin2, gMax2, gAll, gAny, gSum, gTuple, wNeg, wRev, wRevX, itemsOf, D.isTy, D.isHand, Sl.toD, big_0, big_1, big_2, big_3, big_4, big_5, big_6, big_7, big_8, big_9, big_10, big_11, big_12, draw_iff, own_ex, val_ex, wipeE, restE, Sl.keep, Option.getD_some, get_z, get_s, set_z, set_s, List.length_cons, List.length_nil, atI_0, atI_1, atI_2, atI_3, atI_4, ixN_5_0, ixN_5_1, ixN_5_2, ixN_5_3, ixN_5_4, D.bl.injEq, D.int.injEq, D.lst.injEq, D.tup.injEq, D.str.injEq, Sl.own.injEq, Sl.val.injEq, Option.some.injEq, exists_eq_left', exists_eq_left, exists_eq', exists_eq, or_true, true_or, or_false, false_or, CMul, CPow, natAbs_10, natAbs_2, Int.cast_ofNat_Int, Nat.reducePow, exists_and_left, exists_const, and_assoc, true_and, and_true, and_self, false_and, and_false, if_true, if_false, ite_true, ite_false, reduceCtorEq, decide_true, decide_false, decide_eq_true_eq, decide_eq_false_iff_not, Bool.not_true, Bool.not_false, Bool.false_eq_true, List.replicate_zero, List.replicate_succ, List.map_cons, List.map_nil, List.nil_append, List.cons_append, Nat.reduceSub, Nat.reduceAdd, Nat.reduceLeDiff, Nat.reduceLT, Int.reduceLT, Int.reduceLE, Int.reduceAdd, Int.reduceSub, Int.reduceMul, Int.reduceNeg, Int.reduceMod, Int.reduceDiv, Int.reducePow, Int.reduceToNat, okD_int, okD_bl, okD_lst, okD_tup, okD_non, okL_nil, okL_cons, okD_str, okL_int, eqD_int, eqD_bl, eqD_str, eqD_tup, eqD_lst, eqL_cons, eqL_nil, eqL_cn, eqL_nc, eqL_int, Bool.and_eq_true, Bool.or_eq_true, Bool.not_eq_true', Bool.and_false, Bool.false_and, Bool.or_false, Bool.false_or, Bool.or_true, Bool.true_or, Bool.and_true, Bool.true_and, Bool.and_self, wIsT2, wDct0, wLstOf, wRepF, wAsgH, DV.hN, hIx, hCons, hNil, hTup, wLM, gCnt, gIdx, gList, gSorted, wDctO, wPar3, wAppPop, wRaise0, wRaise1, wTry, wIsE, wAct, wFl, flD, gAnyX, gSumX, wCatF, wSSet, wLstR1, wLstR2, wTupR1, wFld])
  refine DV.for_range (lo := 0) (hi := 6) (fun _ env => ∃ x2 x3 x4 x5 x6 x7 x8 x9 x10 : Sl, env = [.no, .val .hand, x2, x3, x4, x5, x6, x7, x8, x9, x10, .no]) ⟨_, _, _, _, _, _, _, _, _, rfl⟩ (fun env hI => ?_) (fun k env hk hI nx hn => ?_)
  · obtain ⟨x2, x3, x4, x5, x6, x7, x8, x9, x10, rfl⟩ := hI
    unfold B_law_20
    have go : ∀ (Q : D → Prop) (E : Er → Prop), Q (dSch 2 2 R2) → T_Scheme [.int 2, .int 2, .tup [.tup [.tup [.int 0, .int 1], .tup [.int 1, .int 0]]]] Q E := fun Q E h => sp_Scheme r2_ok h
    have W : Wd 2 [1, 0, 1, 1] := ⟨by decide, by decide⟩
    have go2 : ∀ (Q : D → Prop) (E : Er → Prop), Q (.int 1) → T_state_of [dSch 2 2 R2, .tup [.int 1, .int 0, .int 1, .int 1]] Q E := fun Q E h => sp_state_of (w := [1, 0, 1, 1]) r2_ok W (by
      rw [show run R2 0 0 [1, 0, 1, 1] = 1 by decide]; exact h)
    (try simp only [wSeq, wAsg, wOwn, wF, wLc, wSkip, wBrk, wCnt, wRet, wRetF, wRetN, wDrop, wIfS, wPar, wFor, wWh, wV, wApp, wExt, wSetIx, wAug, wVal, wLook, wC, wOp, wTst, wChain, wAnd, wOr, wNot, wAndV, wOrV, wNotV, wIf, wNil, wCons, wTup, wLst, wCall, wCB, wIsT, wiR1, wiR2, wiSq, wiEn, wiZip, gN, gT1, gT2, gT3, gT4, gT5, gT6, gT7, wYes, gAdd, DV.gSub, gMul, gMod, gDiv, gPow, gLt, gLe, gGt, gGe, gCmp, gEq, gNe, gIs, gIsN, DV.isNon, gIn, gNotIn, gIx, gSlc, wSlc, wNoP, wPart, gLen, gAbs, gInt, gMin2, gMax2, gAll, gAny, gSum, gTuple, wNeg, wRev, wRevX, itemsOf, D.isTy, D.isHand, Sl.toD, big_0, big_1, big_2, big_3, big_4, big_5, big_6, big_7, big_8, big_9, big_10, big_11, big_12, draw_iff, own_ex, val_ex, wipeE, restE, Sl.keep, Option.getD_some, get_z, get_s, set_z, set_s, List.length_cons, List.length_nil, atI_0, atI_1, atI_2, atI_3, atI_4, ixN_5_0, ixN_5_1, ixN_5_2, ixN_5_3, ixN_5_4, D.bl.injEq, D.int.injEq, D.lst.injEq, D.tup.injEq, D.str.injEq, Sl.own.injEq, Sl.val.injEq, Option.some.injEq, exists_eq_left', exists_eq_left, exists_eq', exists_eq, or_true, true_or, or_false, false_or, CMul, CPow, natAbs_10, natAbs_2, Int.cast_ofNat_Int, Nat.reducePow, exists_and_left, exists_const, and_assoc, true_and, and_true, and_self, false_and, and_false, if_true, if_false, ite_true, ite_false, reduceCtorEq, decide_true, decide_false, decide_eq_true_eq, decide_eq_false_iff_not, Bool.not_true, Bool.not_false, Bool.false_eq_true, List.replicate_zero, List.replicate_succ, List.map_cons, List.map_nil, List.nil_append, List.cons_append, Nat.reduceSub, Nat.reduceAdd, Nat.reduceLeDiff, Nat.reduceLT, Int.reduceLT, Int.reduceLE, Int.reduceAdd, Int.reduceSub, Int.reduceMul, Int.reduceNeg, Int.reduceMod, Int.reduceDiv, Int.reducePow, Int.reduceToNat, okD_int, okD_bl, okD_lst, okD_tup, okD_non, okL_nil, okL_cons, okD_str, okL_int, eqD_int, eqD_bl, eqD_str, eqD_tup, eqD_lst, eqL_cons, eqL_nil, eqL_cn, eqL_nc, eqL_int, Bool.and_eq_true, Bool.or_eq_true, Bool.not_eq_true', Bool.and_false, Bool.false_and, Bool.or_false, Bool.false_or, Bool.or_true, Bool.true_or, Bool.and_true, Bool.true_and, Bool.and_self, wIsT2, wDct0, wLstOf, wRepF, wAsgH, DV.hN, hIx, hCons, hNil, hTup, wLM, gCnt, gIdx, gList, gSorted, wDctO, wPar3, wAppPop, wRaise0, wRaise1, wTry, wIsE, wAct, wFl, flD, gAnyX, gSumX, wCatF, wSSet, wLstR1, wLstR2, wTupR1, wFld])
    refine go _ _ ?_
    (try simp only [wSeq, wAsg, wOwn, wF, wLc, wSkip, wBrk, wCnt, wRet, wRetF, wRetN, wDrop, wIfS, wPar, wFor, wWh, wV, wApp, wExt, wSetIx, wAug, wVal, wLook, wC, wOp, wTst, wChain, wAnd, wOr, wNot, wAndV, wOrV, wNotV, wIf, wNil, wCons, wTup, wLst, wCall, wCB, wIsT, wiR1, wiR2, wiSq, wiEn, wiZip, gN, gT1, gT2, gT3, gT4, gT5, gT6, gT7, wYes, gAdd, DV.gSub, gMul, gMod, gDiv, gPow, gLt, gLe, gGt, gGe, gCmp, gEq, gNe, gIs, gIsN, DV.isNon, gIn, gNotIn, gIx, gSlc, wSlc, wNoP, wPart, gLen, gAbs, gInt, gMin2, gMax2, gAll, gAny, gSum, gTuple, wNeg, wRev, wRevX, itemsOf, D.isTy, D.isHand, Sl.toD, big_0, big_1, big_2, big_3, big_4, big_5, big_6, big_7, big_8, big_9, big_10, big_11, big_12, draw_iff, own_ex, val_ex, wipeE, restE, Sl.keep, Option.getD_some, get_z, get_s, set_z, set_s, List.length_cons, List.length_nil, atI_0, atI_1, atI_2, atI_3, atI_4, ixN_5_0, ixN_5_1, ixN_5_2, ixN_5_3, ixN_5_4, D.bl.injEq, D.int.injEq, D.lst.injEq, D.tup.injEq, D.str.injEq, Sl.own.injEq, Sl.val.injEq, Option.some.injEq, exists_eq_left', exists_eq_left, exists_eq', exists_eq, or_true, true_or, or_false, false_or, CMul, CPow, natAbs_10, natAbs_2, Int.cast_ofNat_Int, Nat.reducePow, exists_and_left, exists_const, and_assoc, true_and, and_true, and_self, false_and, and_false, if_true, if_false, ite_true, ite_false, reduceCtorEq, decide_true, decide_false, decide_eq_true_eq, decide_eq_false_iff_not, Bool.not_true, Bool.not_false, Bool.false_eq_true, List.replicate_zero, List.replicate_succ, List.map_cons, List.map_nil, List.nil_append, List.cons_append, Nat.reduceSub, Nat.reduceAdd, Nat.reduceLeDiff, Nat.reduceLT, Int.reduceLT, Int.reduceLE, Int.reduceAdd, Int.reduceSub, Int.reduceMul, Int.reduceNeg, Int.reduceMod, Int.reduceDiv, Int.reducePow, Int.reduceToNat, okD_int, okD_bl, okD_lst, okD_tup, okD_non, okL_nil, okL_cons, okD_str, okL_int, eqD_int, eqD_bl, eqD_str, eqD_tup, eqD_lst, eqL_cons, eqL_nil, eqL_cn, eqL_nc, eqL_int, Bool.and_eq_true, Bool.or_eq_true, Bool.not_eq_true', Bool.and_false, Bool.false_and, Bool.or_false, Bool.false_or, Bool.or_true, Bool.true_or, Bool.and_true, Bool.true_and, Bool.and_self, wIsT2, wDct0, wLstOf, wRepF, wAsgH, DV.hN, hIx, hCons, hNil, hTup, wLM, gCnt, gIdx, gList, gSorted, wDctO, wPar3, wAppPop, wRaise0, wRaise1, wTry, wIsE, wAct, wFl, flD, gAnyX, gSumX, wCatF, wSSet, wLstR1, wLstR2, wTupR1, wFld])
    refine go2 _ _ ?_
    (try simp only [wSeq, wAsg, wOwn, wF, wLc, wSkip, wBrk, wCnt, wRet, wRetF, wRetN, wDrop, wIfS, wPar, wFor, wWh, wV, wApp, wExt, wSetIx, wAug, wVal, wLook, wC, wOp, wTst, wChain, wAnd, wOr, wNot, wAndV, wOrV, wNotV, wIf, wNil, wCons, wTup, wLst, wCall, wCB, wIsT, wiR1, wiR2, wiSq, wiEn, wiZip, gN, gT1, gT2, gT3, gT4, gT5, gT6, gT7, wYes, gAdd, DV.gSub, gMul, gMod, gDiv, gPow, gLt, gLe, gGt, gGe, gCmp, gEq, gNe, gIs, gIsN, DV.isNon, gIn, gNotIn, gIx, gSlc, wSlc, wNoP, wPart, gLen, gAbs, gInt, gMin2, gMax2, gAll, gAny, gSum, gTuple, wNeg, wRev, wRevX, itemsOf, D.isTy, D.isHand, Sl.toD, big_0, big_1, big_2, big_3, big_4, big_5, big_6, big_7, big_8, big_9, big_10, big_11, big_12, draw_iff, own_ex, val_ex, wipeE, restE, Sl.keep, Option.getD_some, get_z, get_s, set_z, set_s, List.length_cons, List.length_nil, atI_0, atI_1, atI_2, atI_3, atI_4, ixN_5_0, ixN_5_1, ixN_5_2, ixN_5_3, ixN_5_4, D.bl.injEq, D.int.injEq, D.lst.injEq, D.tup.injEq, D.str.injEq, Sl.own.injEq, Sl.val.injEq, Option.some.injEq, exists_eq_left', exists_eq_left, exists_eq', exists_eq, or_true, true_or, or_false, false_or, CMul, CPow, natAbs_10, natAbs_2, Int.cast_ofNat_Int, Nat.reducePow, exists_and_left, exists_const, and_assoc, true_and, and_true, and_self, false_and, and_false, if_true, if_false, ite_true, ite_false, reduceCtorEq, decide_true, decide_false, decide_eq_true_eq, decide_eq_false_iff_not, Bool.not_true, Bool.not_false, Bool.false_eq_true, List.replicate_zero, List.replicate_succ, List.map_cons, List.map_nil, List.nil_append, List.cons_append, Nat.reduceSub, Nat.reduceAdd, Nat.reduceLeDiff, Nat.reduceLT, Int.reduceLT, Int.reduceLE, Int.reduceAdd, Int.reduceSub, Int.reduceMul, Int.reduceNeg, Int.reduceMod, Int.reduceDiv, Int.reducePow, Int.reduceToNat, okD_int, okD_bl, okD_lst, okD_tup, okD_non, okL_nil, okL_cons, okD_str, okL_int, eqD_int, eqD_bl, eqD_str, eqD_tup, eqD_lst, eqL_cons, eqL_nil, eqL_cn, eqL_nc, eqL_int, Bool.and_eq_true, Bool.or_eq_true, Bool.not_eq_true', Bool.and_false, Bool.false_and, Bool.or_false, Bool.false_or, Bool.or_true, Bool.true_or, Bool.and_true, Bool.true_and, Bool.and_self, wIsT2, wDct0, wLstOf, wRepF, wAsgH, DV.hN, hIx, hCons, hNil, hTup, wLM, gCnt, gIdx, gList, gSorted, wDctO, wPar3, wAppPop, wRaise0, wRaise1, wTry, wIsE, wAct, wFl, flD, gAnyX, gSumX, wCatF, wSSet, wLstR1, wLstR2, wTupR1, wFld])
  · obtain ⟨x2, x3, x4, x5, x6, x7, x8, x9, x10, rfl⟩ := hI
    (try simp only [wSeq, wAsg, wOwn, wF, wLc, wSkip, wBrk, wCnt, wRet, wRetF, wRetN, wDrop, wIfS, wPar, wFor, wWh, wV, wApp, wExt, wSetIx, wAug, wVal, wLook, wC, wOp, wTst, wChain, wAnd, wOr, wNot, wAndV, wOrV, wNotV, wIf, wNil, wCons, wTup, wLst, wCall, wCB, wIsT, wiR1, wiR2, wiSq, wiEn, wiZip, gN, gT1, gT2, gT3, gT4, gT5, gT6, gT7, wYes, gAdd, DV.gSub, gMul, gMod, gDiv, gPow, gLt, gLe, gGt, gGe, gCmp, gEq, gNe, gIs, gIsN, DV.isNon, gIn, gNotIn, gIx, gSlc, wSlc, wNoP, wPart, gLen, gAbs, gInt, gMin2, gMax2, gAll, gAny, gSum, gTuple, wNeg, wRev, wRevX, itemsOf, D.isTy, D.isHand, Sl.toD, big_0, big_1, big_2, big_3, big_4, big_5, big_6, big_7, big_8, big_9, big_10, big_11, big_12, draw_iff, own_ex, val_ex, wipeE, restE, Sl.keep, Option.getD_some, get_z, get_s, set_z, set_s, List.length_cons, List.length_nil, atI_0, atI_1, atI_2, atI_3, atI_4, ixN_5_0, ixN_5_1, ixN_5_2, ixN_5_3, ixN_5_4, D.bl.injEq, D.int.injEq, D.lst.injEq, D.tup.injEq, D.str.injEq, Sl.own.injEq, Sl.val.injEq, Option.some.injEq, exists_eq_left', exists_eq_left, exists_eq', exists_eq, or_true, true_or, or_false, false_or, CMul, CPow, natAbs_10, natAbs_2, Int.cast_ofNat_Int, Nat.reducePow, exists_and_left, exists_const, and_assoc, true_and, and_true, and_self, false_and, and_false, if_true, if_false, ite_true, ite_false, reduceCtorEq, decide_true, decide_false, decide_eq_true_eq, decide_eq_false_iff_not, Bool.not_true, Bool.not_false, Bool.false_eq_true, List.replicate_zero, List.replicate_succ, List.map_cons, List.map_nil, List.nil_append, List.cons_append, Nat.reduceSub, Nat.reduceAdd, Nat.reduceLeDiff, Nat.reduceLT, Int.reduceLT, Int.reduceLE, Int.reduceAdd, Int.reduceSub, Int.reduceMul, Int.reduceNeg, Int.reduceMod, Int.reduceDiv, Int.reducePow, Int.reduceToNat, okD_int, okD_bl, okD_lst, okD_tup, okD_non, okL_nil, okL_cons, okD_str, okL_int, eqD_int, eqD_bl, eqD_str, eqD_tup, eqD_lst, eqL_cons, eqL_nil, eqL_cn, eqL_nc, eqL_int, Bool.and_eq_true, Bool.or_eq_true, Bool.not_eq_true', Bool.and_false, Bool.false_and, Bool.or_false, Bool.false_or, Bool.or_true, Bool.true_or, Bool.and_true, Bool.true_and, Bool.and_self, wIsT2, wDct0, wLstOf, wRepF, wAsgH, DV.hN, hIx, hCons, hNil, hTup, wLM, gCnt, gIdx, gList, gSorted, wDctO, wPar3, wAppPop, wRaise0, wRaise1, wTry, wIsE, wAct, wFl, flD, gAnyX, gSumX, wCatF, wSSet, wLstR1, wLstR2, wTupR1, wFld])
    exact law_3 fun _ _ _ _ _ _ _ _ => hn _ ⟨_, _, _, _, _, _, _, _, _, rfl⟩
end Law

set_option Elab.async false
set_option linter.all false
set_option maxRecDepth 100000
namespace Law
open PySem PySem.Spec PyProof.Rows L2 DV
set_option maxHeartbeats 0 in
/-- what the top has written, for law -/
theorem all_mk {l : PySem.W.OpenLaw} {w : World} {K : PySem.W.Frag} {h : Heap} {mg : Str → Option Value} {fa f1 f2 f3 f4 f5 f6 f7 f8 f9 f10 f12 f13 f14 f15 f16 f17 f18 f19 f20 f21 C_CheckError C_BadScheme C_NoWord g_BadScheme g_CheckError C_Scheme g_Scheme : Addr} (X : K.In h) (hG : h.Ns mainGlobals mg) (hfa : mg "law" = some (.ref fa))
    {od1 an1 : Option Addr} {sl1 : Array (Option Value)} {oc1 kV1 dc1 pm1 ct1 cd1 : Value}
    {od2 an2 : Option Addr} {sl2 : Array (Option Value)} {oc2 kV2 dc2 pm2 ct2 cd2 : Value}
    {od3 an3 : Option Addr} {sl3 : Array (Option Value)} {oc3 kV3 dc3 pm3 ct3 cd3 : Value}
    {od4 an4 : Option Addr} {sl4 : Array (Option Value)} {oc4 kV4 dc4 pm4 ct4 cd4 : Value}
    {od5 an5 : Option Addr} {sl5 : Array (Option Value)} {oc5 kV5 dc5 pm5 ct5 cd5 : Value}
    {od6 an6 : Option Addr} {sl6 : Array (Option Value)} {oc6 kV6 dc6 pm6 ct6 cd6 : Value}
    {od7 an7 : Option Addr} {sl7 : Array (Option Value)} {oc7 kV7 dc7 pm7 ct7 cd7 : Value}
    {od8 an8 : Option Addr} {sl8 : Array (Option Value)} {oc8 kV8 dc8 pm8 ct8 cd8 : Value}
    {od9 an9 : Option Addr} {sl9 : Array (Option Value)} {oc9 kV9 dc9 pm9 ct9 cd9 : Value}
    {od10 an10 : Option Addr} {sl10 : Array (Option Value)} {oc10 kV10 dc10 pm10 ct10 cd10 : Value}
    {od_Scheme an_Scheme : Option Addr} {sl_Scheme : Array (Option Value)} {oc_Scheme kV_Scheme dc_Scheme pm_Scheme ct_Scheme cd_Scheme : Value}
    {od12 an12 : Option Addr} {sl12 : Array (Option Value)} {oc12 kV12 dc12 pm12 ct12 cd12 : Value}
    {od13 an13 : Option Addr} {sl13 : Array (Option Value)} {oc13 kV13 dc13 pm13 ct13 cd13 : Value}
    {od14 an14 : Option Addr} {sl14 : Array (Option Value)} {oc14 kV14 dc14 pm14 ct14 cd14 : Value}
    {od15 an15 : Option Addr} {sl15 : Array (Option Value)} {oc15 kV15 dc15 pm15 ct15 cd15 : Value}
    {od16 an16 : Option Addr} {sl16 : Array (Option Value)} {oc16 kV16 dc16 pm16 ct16 cd16 : Value}
    {od17 an17 : Option Addr} {sl17 : Array (Option Value)} {oc17 kV17 dc17 pm17 ct17 cd17 : Value}
    {od18 an18 : Option Addr} {sl18 : Array (Option Value)} {oc18 kV18 dc18 pm18 ct18 cd18 : Value}
    {od19 an19 : Option Addr} {sl19 : Array (Option Value)} {oc19 kV19 dc19 pm19 ct19 cd19 : Value}
    {od20 an20 : Option Addr} {sl20 : Array (Option Value)} {oc20 kV20 dc20 pm20 ct20 cd20 : Value}
    {od21 an21 : Option Addr} {sl21 : Array (Option Value)} {oc21 kV21 dc21 pm21 ct21 : Value} {cc21 PT21 : Addr} {v21 : Array Value} {e21 : Value} {d21 : Option Addr} {s21 : Array (Option Value)}
    {nm_BadScheme qq_BadScheme : Str} {N_BadScheme : Addr} {bs_BadScheme sub_BadScheme : List Value} {sn_BadScheme : List Str} {ab_BadScheme : Bool} {col_BadScheme : Option Bool} {dd_BadScheme : Option Addr} {m0_BadScheme m1_BadScheme m2_BadScheme m3_BadScheme m5_BadScheme : Option Value}
    {nm_CheckError qq_CheckError : Str} {N_CheckError : Addr} {bs_CheckError sub_CheckError : List Value} {sn_CheckError : List Str} {ab_CheckError : Bool} {col_CheckError : Option Bool} {dd_CheckError : Option Addr} {m0_CheckError m1_CheckError m2_CheckError m3_CheckError m5_CheckError : Option Value}
    {nm_NoWord qq_NoWord : Str} {N_NoWord : Addr} {bs_NoWord sub_NoWord : List Value} {sn_NoWord : List Str} {ab_NoWord : Bool} {col_NoWord : Option Bool} {dd_NoWord : Option Addr} {m0_NoWord m1_NoWord m2_NoWord m3_NoWord m5_NoWord : Option Value}
    {od_BadScheme an_BadScheme : Option Addr} {sl_BadScheme : Array (Option Value)} {oc_BadScheme kV_BadScheme dc_BadScheme pm_BadScheme ct_BadScheme cd_BadScheme : Value}
    {od_CheckError an_CheckError : Option Addr} {sl_CheckError : Array (Option Value)} {oc_CheckError kV_CheckError dc_CheckError pm_CheckError ct_CheckError cd_CheckError : Value}
    {tk_MOST_LONG_checks tk_MOST_LONG_schemes tk_MOST_SIGNS tk_MOST_STATES : Tok}
    (tb21 : TabOf K mg "law" h)
    (a1 : PySem.W.nsIn K mainGlobals "_law_hand" = some (some (.ref f1)))
    (l1 : K.lookup f1 = some ⟨oc1, od1, .func (PySem.W.fnOf "_law_hand" "_law_hand" (defArgs s__law_hand) (defBody s__law_hand) (defScope s__law_hand) .none kV1 dc1 pm1 an1 cd1 ct1), sl1⟩)
    (c1 : PySem.W.codeIn K cd1 "_law_hand" = true)
    (k1 : PySem.W.keepIn K (.ref f1) = true)
    (a2 : PySem.W.nsIn K mainGlobals "raw_state" = some (some (.ref f2)))
    (l2 : K.lookup f2 = some ⟨oc2, od2, .func (PySem.W.fnOf "raw_state" "raw_state" (defArgs s_raw_state) (defBody s_raw_state) (defScope s_raw_state) .none kV2 dc2 pm2 an2 cd2 ct2), sl2⟩)
    (c2 : PySem.W.codeIn K cd2 "raw_state" = true)
    (k2 : PySem.W.keepIn K (.ref f2) = true)
    (a3 : PySem.W.nsIn K mainGlobals "is_sized" = some (some (.ref f3)))
    (l3 : K.lookup f3 = some ⟨oc3, od3, .func (PySem.W.fnOf "is_sized" "is_sized" (defArgs s_is_sized) (defBody s_is_sized) (defScope s_is_sized) .none kV3 dc3 pm3 an3 cd3 ct3), sl3⟩)
    (c3 : PySem.W.codeIn K cd3 "is_sized" = true)
    (k3 : PySem.W.keepIn K (.ref f3) = true)
    (a4 : PySem.W.nsIn K mainGlobals "is_integer" = some (some (.ref f4)))
    (l4 : K.lookup f4 = some ⟨oc4, od4, .func (PySem.W.fnOf "is_integer" "is_integer" (defArgs s_is_integer) (defBody s_is_integer) (defScope s_is_integer) .none kV4 dc4 pm4 an4 cd4 ct4), sl4⟩)
    (c4 : PySem.W.codeIn K cd4 "is_integer" = true)
    (k4 : PySem.W.keepIn K (.ref f4) = true)
    (a5 : PySem.W.nsIn K mainGlobals "is_within" = some (some (.ref f5)))
    (l5 : K.lookup f5 = some ⟨oc5, od5, .func (PySem.W.fnOf "is_within" "is_within" (defArgs s_is_within) (defBody s_is_within) (defScope s_is_within) .none kV5 dc5 pm5 an5 cd5 ct5), sl5⟩)
    (c5 : PySem.W.codeIn K cd5 "is_within" = true)
    (k5 : PySem.W.keepIn K (.ref f5) = true)
    (a6 : PySem.W.nsIn K mainGlobals "are_below" = some (some (.ref f6)))
    (l6 : K.lookup f6 = some ⟨oc6, od6, .func (PySem.W.fnOf "are_below" "are_below" (defArgs s_are_below) (defBody s_are_below) (defScope s_are_below) .none kV6 dc6 pm6 an6 cd6 ct6), sl6⟩)
    (c6 : PySem.W.codeIn K cd6 "are_below" = true)
    (k6 : PySem.W.keepIn K (.ref f6) = true)
    (a7 : PySem.W.nsIn K mainGlobals "is_word" = some (some (.ref f7)))
    (l7 : K.lookup f7 = some ⟨oc7, od7, .func (PySem.W.fnOf "is_word" "is_word" (defArgs s_is_word) (defBody s_is_word) (defScope s_is_word) .none kV7 dc7 pm7 an7 cd7 ct7), sl7⟩)
    (c7 : PySem.W.codeIn K cd7 "is_word" = true)
    (k7 : PySem.W.keepIn K (.ref f7) = true)
    (a8 : PySem.W.nsIn K mainGlobals "check_word" = some (some (.ref f8)))
    (l8 : K.lookup f8 = some ⟨oc8, od8, .func (PySem.W.fnOf "check_word" "check_word" (defArgs s_check_word) (defBody s_check_word) (defScope s_check_word) .none kV8 dc8 pm8 an8 cd8 ct8), sl8⟩)
    (c8 : PySem.W.codeIn K cd8 "check_word" = true)
    (k8 : PySem.W.keepIn K (.ref f8) = true)
    (a9 : PySem.W.nsIn K mainGlobals "state_of" = some (some (.ref f9)))
    (l9 : K.lookup f9 = some ⟨oc9, od9, .func (PySem.W.fnOf "state_of" "state_of" (defArgs s_state_of) (defBody s_state_of) (defScope s_state_of) .none kV9 dc9 pm9 an9 cd9 ct9), sl9⟩)
    (c9 : PySem.W.codeIn K cd9 "state_of" = true)
    (k9 : PySem.W.keepIn K (.ref f9) = true)
    (a10 : PySem.W.nsIn K mainGlobals "is_tuple" = some (some (.ref f10)))
    (l10 : K.lookup f10 = some ⟨oc10, od10, .func (PySem.W.fnOf "is_tuple" "is_tuple" (defArgs s_is_tuple) (defBody s_is_tuple) (defScope s_is_tuple) .none kV10 dc10 pm10 an10 cd10 ct10), sl10⟩)
    (c10 : PySem.W.codeIn K cd10 "is_tuple" = true)
    (k10 : PySem.W.keepIn K (.ref f10) = true)
    (aC_Scheme : PySem.W.nsIn K mainGlobals "Scheme" = some (some (.ref C_Scheme)))
    (i1_Scheme : PySem.W.findIn K (.ref C_Scheme) "__init__" = some (some (.ref g_Scheme)))
    (pg_Scheme : PySem.W.plainGet K C_Scheme Str.empty = true)
    (hd_Scheme : PySem.W.hasDictIn K C_Scheme = true)
    (po_Scheme : PySem.W.plainOver K C_Scheme = true)
    (sa_Scheme : PySem.W.findIn K (.ref C_Scheme) "__setattr__" = some (some (.builtin "object.__setattr__")))
    (cl_Scheme : PySem.W.findIn K (.ref C_Scheme) "__class__" = some (some (.builtin "object.__class__")))
    (mO_Scheme : PySem.W.mroIn K C_Scheme (.type "object") = some true)
    (mk_Scheme : PySem.W.makesIn K C_Scheme = true)
    (fn_Scheme : PySem.W.isFn K (.ref g_Scheme) = true)
    (kC_Scheme : PySem.W.keepIn K (.ref C_Scheme) = true)
    (lI_Scheme : K.lookup g_Scheme = some ⟨oc_Scheme, od_Scheme, .func (PySem.W.fnOf "__init__" "Scheme.__init__" (defArgs s_Scheme) (defBody s_Scheme) (defScope s_Scheme) .none kV_Scheme dc_Scheme pm_Scheme an_Scheme cd_Scheme ct_Scheme), sl_Scheme⟩)
    (cI_Scheme : PySem.W.codeIn K cd_Scheme "Scheme.__init__" = true)
    (kI_Scheme : PySem.W.keepIn K (.ref g_Scheme) = true)
    (na_Scheme_rounds : PySem.W.findIn K (.ref C_Scheme) "rounds" = some none)
    (na_Scheme_signs : PySem.W.findIn K (.ref C_Scheme) "signs" = some none)
    (na_Scheme_states : PySem.W.findIn K (.ref C_Scheme) "states" = some none)
    (no_Scheme_int : PySem.W.kitOne K (.ref C_Scheme) (.type "int") = some false)
    (no_Scheme_bool : PySem.W.kitOne K (.ref C_Scheme) (.type "bool") = some false)
    (no_Scheme_str : PySem.W.kitOne K (.ref C_Scheme) (.type "str") = some false)
    (no_Scheme_tuple : PySem.W.kitOne K (.ref C_Scheme) (.type "tuple") = some false)
    (no_Scheme_list : PySem.W.kitOne K (.ref C_Scheme) (.type "list") = some false)
    (no_Scheme_dict : PySem.W.kitOne K (.ref C_Scheme) (.type "dict") = some false)
    (a12 : PySem.W.nsIn K mainGlobals "is_good" = some (some (.ref f12)))
    (l12 : K.lookup f12 = some ⟨oc12, od12, .func (PySem.W.fnOf "is_good" "is_good" (defArgs s_is_good) (defBody s_is_good) (defScope s_is_good) .none kV12 dc12 pm12 an12 cd12 ct12), sl12⟩)
    (c12 : PySem.W.codeIn K cd12 "is_good" = true)
    (k12 : PySem.W.keepIn K (.ref f12) = true)
    (a13 : PySem.W.nsIn K mainGlobals "_law_said" = some (some (.ref f13)))
    (l13 : K.lookup f13 = some ⟨oc13, od13, .func (PySem.W.fnOf "_law_said" "_law_said" (defArgs s__law_said) (defBody s__law_said) (defScope s__law_said) .none kV13 dc13 pm13 an13 cd13 ct13), sl13⟩)
    (c13 : PySem.W.codeIn K cd13 "_law_said" = true)
    (k13 : PySem.W.keepIn K (.ref f13) = true)
    (a14 : PySem.W.nsIn K mainGlobals "read_on" = some (some (.ref f14)))
    (l14 : K.lookup f14 = some ⟨oc14, od14, .func (PySem.W.fnOf "read_on" "read_on" (defArgs s_read_on) (defBody s_read_on) (defScope s_read_on) .none kV14 dc14 pm14 an14 cd14 ct14), sl14⟩)
    (c14 : PySem.W.codeIn K cd14 "read_on" = true)
    (k14 : PySem.W.keepIn K (.ref f14) = true)
    (a15 : PySem.W.nsIn K mainGlobals "_law_draw" = some (some (.ref f15)))
    (l15 : K.lookup f15 = some ⟨oc15, od15, .func (PySem.W.fnOf "_law_draw" "_law_draw" (defArgs s__law_draw) (defBody s__law_draw) (defScope s__law_draw) .none kV15 dc15 pm15 an15 cd15 ct15), sl15⟩)
    (c15 : PySem.W.codeIn K cd15 "_law_draw" = true)
    (k15 : PySem.W.keepIn K (.ref f15) = true)
    (a16 : PySem.W.nsIn K mainGlobals "_law_any" = some (some (.ref f16)))
    (l16 : K.lookup f16 = some ⟨oc16, od16, .func (PySem.W.fnOf "_law_any" "_law_any" (defArgs s__law_any) (defBody s__law_any) (defScope s__law_any) .none kV16 dc16 pm16 an16 cd16 ct16), sl16⟩)
    (c16 : PySem.W.codeIn K cd16 "_law_any" = true)
    (k16 : PySem.W.keepIn K (.ref f16) = true)
    (a17 : PySem.W.nsIn K mainGlobals "_law_state" = some (some (.ref f17)))
    (l17 : K.lookup f17 = some ⟨oc17, od17, .func (PySem.W.fnOf "_law_state" "_law_state" (defArgs s__law_state) (defBody s__law_state) (defScope s__law_state) .none kV17 dc17 pm17 an17 cd17 ct17), sl17⟩)
    (c17 : PySem.W.codeIn K cd17 "_law_state" = true)
    (k17 : PySem.W.keepIn K (.ref f17) = true)
    (a18 : PySem.W.nsIn K mainGlobals "_law_word" = some (some (.ref f18)))
    (l18 : K.lookup f18 = some ⟨oc18, od18, .func (PySem.W.fnOf "_law_word" "_law_word" (defArgs s__law_word) (defBody s__law_word) (defScope s__law_word) .none kV18 dc18 pm18 an18 cd18 ct18), sl18⟩)
    (c18 : PySem.W.codeIn K cd18 "_law_word" = true)
    (k18 : PySem.W.keepIn K (.ref f18) = true)
    (a19 : PySem.W.nsIn K mainGlobals "_law_rounds" = some (some (.ref f19)))
    (l19 : K.lookup f19 = some ⟨oc19, od19, .func (PySem.W.fnOf "_law_rounds" "_law_rounds" (defArgs s__law_rounds) (defBody s__law_rounds) (defScope s__law_rounds) .none kV19 dc19 pm19 an19 cd19 ct19), sl19⟩)
    (c19 : PySem.W.codeIn K cd19 "_law_rounds" = true)
    (k19 : PySem.W.keepIn K (.ref f19) = true)
    (a20 : PySem.W.nsIn K mainGlobals "_law_scheme" = some (some (.ref f20)))
    (l20 : K.lookup f20 = some ⟨oc20, od20, .func (PySem.W.fnOf "_law_scheme" "_law_scheme" (defArgs s__law_scheme) (defBody s__law_scheme) (defScope s__law_scheme) .none kV20 dc20 pm20 an20 cd20 ct20), sl20⟩)
    (c20 : PySem.W.codeIn K cd20 "_law_scheme" = true)
    (k20 : PySem.W.keepIn K (.ref f20) = true)
    (a21 : PySem.W.nsIn K mainGlobals "law" = some (some (.ref f21)))
    (l21 : K.lookup f21 = some ⟨oc21, od21, .func (PySem.W.fnOf "law" "law" (defArgs s_law) (defBody s_law) (defScope s_law) .none kV21 dc21 pm21 an21 (.ref cc21) ct21), sl21⟩)
    (c21 : PySem.W.codeIn K (.ref cc21) "law" = true)
    (k21 : PySem.W.keepIn K (.ref f21) = true)
    (lc21 : K.lookup cc21 = some ⟨e21, d21, .fields v21, s21⟩)
    (pt21 : v21[11]? = some (.ref PT21))
    (hd21 : PySem.W.codeHdIn K cc21 PT21 = true)
    (gP21 : mainGlobals ≠ PT21)
    (nP21 : K.lookup PT21 = none)
    (z_ValueError : PySem.W.nsIn K mainGlobals "ValueError" = some none)
    (z_abs : PySem.W.nsIn K mainGlobals "abs" = some none)
    (z_all : PySem.W.nsIn K mainGlobals "all" = some none)
    (z_bool : PySem.W.nsIn K mainGlobals "bool" = some none)
    (z_enumerate : PySem.W.nsIn K mainGlobals "enumerate" = some none)
    (z_int : PySem.W.nsIn K mainGlobals "int" = some none)
    (z_isinstance : PySem.W.nsIn K mainGlobals "isinstance" = some none)
    (z_len : PySem.W.nsIn K mainGlobals "len" = some none)
    (z_list : PySem.W.nsIn K mainGlobals "list" = some none)
    (z_min : PySem.W.nsIn K mainGlobals "min" = some none)
    (z_range : PySem.W.nsIn K mainGlobals "range" = some none)
    (z_tuple : PySem.W.nsIn K mainGlobals "tuple" = some none)
    (q_MOST_LONG_checks : PySem.W.nsIn K mainGlobals "MOST_LONG_checks" = some (some (.int 24 tk_MOST_LONG_checks)))
    (q_MOST_LONG_schemes : PySem.W.nsIn K mainGlobals "MOST_LONG_schemes" = some (some (.int 24 tk_MOST_LONG_schemes)))
    (q_MOST_SIGNS : PySem.W.nsIn K mainGlobals "MOST_SIGNS" = some (some (.int 36 tk_MOST_SIGNS)))
    (q_MOST_STATES : PySem.W.nsIn K mainGlobals "MOST_STATES" = some (some (.int 200 tk_MOST_STATES)))
    (aC_CheckError : PySem.W.nsIn K mainGlobals "CheckError" = some (some (.ref C_CheckError)))
    (aC_BadScheme : PySem.W.nsIn K mainGlobals "BadScheme" = some (some (.ref C_BadScheme)))
    (aC_NoWord : PySem.W.nsIn K mainGlobals "NoWord" = some (some (.ref C_NoWord)))
    (xL_BadScheme : K.lookup C_BadScheme = some (excClassObj nm_BadScheme qq_BadScheme C_BadScheme N_BadScheme bs_BadScheme [.ref C_CheckError, .type "ValueError", .type "Exception", .type "BaseException", .type "object"] true sn_BadScheme sub_BadScheme ab_BadScheme col_BadScheme dd_BadScheme m0_BadScheme m1_BadScheme m2_BadScheme m3_BadScheme m5_BadScheme "ValueError.__new__"))
    (sa_BadScheme : PySem.W.findIn K (.ref C_BadScheme) "__setattr__" = some (some (.builtin "object.__setattr__")))
    (ga_BadScheme : PySem.W.findIn K (.ref C_BadScheme) "__getattribute__" = some (some (.builtin "BaseException.__getattribute__")))
    (gg_BadScheme : PySem.W.findIn K (.ref C_BadScheme) "__getattr__" = some none)
    (i1_BadScheme : PySem.W.findIn K (.ref C_BadScheme) "__init__" = some (some (.ref g_BadScheme)))
    (kC_BadScheme : PySem.W.keepIn K (.ref C_BadScheme) = true)
    (eC_BadScheme : PySem.W.subIn K (.ref C_BadScheme) (.type "BaseException") = some true)
    (tC_BadScheme : PySem.W.typeIn K (.ref C_BadScheme) = some (.type "type"))
    (hC_BadScheme : PySem.W.hasDictIn K C_BadScheme = true)
    (cl_BadScheme : PySem.W.findIn K (.ref C_BadScheme) "__class__" = some (some (.builtin "object.__class__")))
    (mO_BadScheme : PySem.W.mroIn K C_BadScheme (.type "object") = some true)
    (xL_CheckError : K.lookup C_CheckError = some (excClassObj nm_CheckError qq_CheckError C_CheckError N_CheckError bs_CheckError [.type "ValueError", .type "Exception", .type "BaseException", .type "object"] true sn_CheckError sub_CheckError ab_CheckError col_CheckError dd_CheckError m0_CheckError m1_CheckError m2_CheckError m3_CheckError m5_CheckError "ValueError.__new__"))
    (sa_CheckError : PySem.W.findIn K (.ref C_CheckError) "__setattr__" = some (some (.builtin "object.__setattr__")))
    (ga_CheckError : PySem.W.findIn K (.ref C_CheckError) "__getattribute__" = some (some (.builtin "BaseException.__getattribute__")))
    (gg_CheckError : PySem.W.findIn K (.ref C_CheckError) "__getattr__" = some none)
    (i1_CheckError : PySem.W.findIn K (.ref C_CheckError) "__init__" = some (some (.ref g_CheckError)))
    (kC_CheckError : PySem.W.keepIn K (.ref C_CheckError) = true)
    (eC_CheckError : PySem.W.subIn K (.ref C_CheckError) (.type "BaseException") = some true)
    (tC_CheckError : PySem.W.typeIn K (.ref C_CheckError) = some (.type "type"))
    (hC_CheckError : PySem.W.hasDictIn K C_CheckError = true)
    (cl_CheckError : PySem.W.findIn K (.ref C_CheckError) "__class__" = some (some (.builtin "object.__class__")))
    (mO_CheckError : PySem.W.mroIn K C_CheckError (.type "object") = some true)
    (xL_NoWord : K.lookup C_NoWord = some (excClassObj nm_NoWord qq_NoWord C_NoWord N_NoWord bs_NoWord [.ref C_CheckError, .type "ValueError", .type "Exception", .type "BaseException", .type "object"] true sn_NoWord sub_NoWord ab_NoWord col_NoWord dd_NoWord m0_NoWord m1_NoWord m2_NoWord m3_NoWord m5_NoWord "ValueError.__new__"))
    (sa_NoWord : PySem.W.findIn K (.ref C_NoWord) "__setattr__" = some (some (.builtin "object.__setattr__")))
    (ga_NoWord : PySem.W.findIn K (.ref C_NoWord) "__getattribute__" = some (some (.builtin "BaseException.__getattribute__")))
    (gg_NoWord : PySem.W.findIn K (.ref C_NoWord) "__getattr__" = some none)
    (i1_NoWord : PySem.W.findIn K (.ref C_NoWord) "__init__" = some (some (.ref g_CheckError)))
    (kC_NoWord : PySem.W.keepIn K (.ref C_NoWord) = true)
    (eC_NoWord : PySem.W.subIn K (.ref C_NoWord) (.type "BaseException") = some true)
    (tC_NoWord : PySem.W.typeIn K (.ref C_NoWord) = some (.type "type"))
    (hC_NoWord : PySem.W.hasDictIn K C_NoWord = true)
    (cl_NoWord : PySem.W.findIn K (.ref C_NoWord) "__class__" = some (some (.builtin "object.__class__")))
    (mO_NoWord : PySem.W.mroIn K C_NoWord (.type "object") = some true)
    (lI_BadScheme : K.lookup g_BadScheme = some ⟨oc_BadScheme, od_BadScheme, .func (PySem.W.fnOf "__init__" "BadScheme.__init__" (defArgs s_init_BadScheme) (defBody s_init_BadScheme) (defScope s_init_BadScheme) .none kV_BadScheme dc_BadScheme pm_BadScheme an_BadScheme cd_BadScheme ct_BadScheme), sl_BadScheme⟩)
    (cI_BadScheme : PySem.W.codeIn K cd_BadScheme "BadScheme.__init__" = true)
    (kI_BadScheme : PySem.W.keepIn K (.ref g_BadScheme) = true)
    (tI_BadScheme : PySem.W.typeIn K (.ref g_BadScheme) = some (.type "function"))
    (lI_CheckError : K.lookup g_CheckError = some ⟨oc_CheckError, od_CheckError, .func (PySem.W.fnOf "__init__" "CheckError.__init__" (defArgs s_init_CheckError) (defBody s_init_CheckError) (defScope s_init_CheckError) .none kV_CheckError dc_CheckError pm_CheckError an_CheckError cd_CheckError ct_CheckError), sl_CheckError⟩)
    (cI_CheckError : PySem.W.codeIn K cd_CheckError "CheckError.__init__" = true)
    (kI_CheckError : PySem.W.keepIn K (.ref g_CheckError) = true)
    (tI_CheckError : PySem.W.typeIn K (.ref g_CheckError) = some (.type "function"))
    (rd_CheckError : PySem.W.readsIn K C_CheckError (.type "type") = true)
    (gq_CheckError : PySem.W.specialIn K (.ref C_CheckError) "__getattribute__" = some (some (.builtin "type.__getattribute__")))
    (c0_CheckError : PySem.W.findCls K (.ref C_CheckError) (.type "type") "__init__" = some (.val (.ref g_CheckError)))
    (hn : PySem.W.specialIn K (.builtin "object.__class__") "__get__" = some (some (.builtin "getset_descriptor.__get__")))
    (ht : PySem.W.takesIn K (.builtin "object.__class__") = some true)
    (vV : PySem.W.findCls K (.type "ValueError") (.type "type") "__init__" = some (.val (.builtin "ValueError.__init__")))
    (s_BadScheme_CheckError : PySem.W.subIn K (.ref C_BadScheme) (.ref C_CheckError) = some true)
    (k_BadScheme_NoWord : PySem.W.kitOne K (.ref C_BadScheme) (.ref C_NoWord) = some ((["NoWord"] : List Str).contains "BadScheme"))
    (kV_BadScheme : PySem.W.kitOne K (.ref C_BadScheme) (.type "ValueError") = some true)
    (nf_part_BadScheme : PySem.W.findIn K (.ref C_BadScheme) "part" = some none)
    (s_NoWord_CheckError : PySem.W.subIn K (.ref C_NoWord) (.ref C_CheckError) = some true)
    (k_NoWord_NoWord : PySem.W.kitOne K (.ref C_NoWord) (.ref C_NoWord) = some ((["NoWord"] : List Str).contains "NoWord"))
    (kV_NoWord : PySem.W.kitOne K (.ref C_NoWord) (.type "ValueError") = some true)
    (nf_part_NoWord : PySem.W.findIn K (.ref C_NoWord) "part" = some none)
    : LamX.LawAtS l w K (L2.CX l.prog w) 9 63 "script" mg fa h := by
  have e := hfa.symm.trans (PySem.W.mg_of X hG a21)
  cases e
  have T : Txt mg := ⟨PySem.W.mg_none_of X hG z_ValueError, PySem.W.mg_none_of X hG z_abs, PySem.W.mg_none_of X hG z_all, PySem.W.mg_none_of X hG z_bool, PySem.W.mg_none_of X hG z_enumerate, PySem.W.mg_none_of X hG z_int, PySem.W.mg_none_of X hG z_isinstance, PySem.W.mg_none_of X hG z_len, PySem.W.mg_none_of X hG z_list, PySem.W.mg_none_of X hG z_min, PySem.W.mg_none_of X hG z_range, PySem.W.mg_none_of X hG z_tuple, ⟨_, PySem.W.mg_of X hG q_MOST_LONG_checks⟩, ⟨_, PySem.W.mg_of X hG q_MOST_LONG_schemes⟩, ⟨_, PySem.W.mg_of X hG q_MOST_SIGNS⟩, ⟨_, PySem.W.mg_of X hG q_MOST_STATES⟩⟩
  have F01 := fun_mk (st := s__law_hand) l1 c1 k1
  have F1 := F01
  have b1 := F01.binds (ps := ["script"]) fun _ _ _ _ _ _ us hl => match us, hl with | [_], _ => rfl
  have F02 := fun_mk (st := s_raw_state) l2 c2 k2
  have F2 := F02
  have b2 := F02.binds (ps := ["scheme", "word"]) fun _ _ _ _ _ _ us hl => match us, hl with | [_, _], _ => rfl
  have F03 := fun_mk (st := s_is_sized) l3 c3 k3
  have F3 := F03
  have b3 := F03.binds (ps := ["thing", "least", "most"]) fun _ _ _ _ _ _ us hl => match us, hl with | [_, _, _], _ => rfl
  have F04 := fun_mk (st := s_is_integer) l4 c4 k4
  have F4 := F04
  have b4 := F04.binds (ps := ["thing"]) fun _ _ _ _ _ _ us hl => match us, hl with | [_], _ => rfl
  have F05 := fun_mk (st := s_is_within) l5 c5 k5
  have F5 := F05
  have b5 := F05.binds (ps := ["thing", "least", "most"]) fun _ _ _ _ _ _ us hl => match us, hl with | [_, _, _], _ => rfl
  have F06 := fun_mk (st := s_are_below) l6 c6 k6
  have F6 := F06
  have b6 := F06.binds (ps := ["thing", "many"]) fun _ _ _ _ _ _ us hl => match us, hl with | [_, _], _ => rfl
  have F07 := fun_mk (st := s_is_word) l7 c7 k7
  have F7 := F07
  have b7 := F07.binds (ps := ["many", "thing"]) fun _ _ _ _ _ _ us hl => match us, hl with | [_, _], _ => rfl
  have F08 := fun_mk (st := s_check_word) l8 c8 k8
  have F8 := F08
  have b8 := F08.binds (ps := ["many", "thing"]) fun _ _ _ _ _ _ us hl => match us, hl with | [_, _], _ => rfl
  have F09 := fun_mk (st := s_state_of) l9 c9 k9
  have F9 := F09
  have b9 := F09.binds (ps := ["scheme", "word"]) fun _ _ _ _ _ _ us hl => match us, hl with | [_, _], _ => rfl
  have F010 := fun_mk (st := s_is_tuple) l10 c10 k10
  have F10 := F010
  have b10 := F010.binds (ps := ["thing", "size"]) fun _ _ _ _ _ _ us hl => match us, hl with | [_, _], _ => rfl
  have FI_Scheme := fun_mk (st := s_Scheme) lI_Scheme cI_Scheme kI_Scheme
  have bI_Scheme := FI_Scheme.binds (ps := ["self", "signs", "states", "rounds"]) fun _ _ _ _ _ _ us hl => match us, hl with | [_, _, _, _], _ => rfl
  have F012 := fun_mk (st := s_is_good) l12 c12 k12
  have F12 := F012
  have b12 := F012.binds (ps := ["scheme", "thing"]) fun _ _ _ _ _ _ us hl => match us, hl with | [_, _], _ => rfl
  have F013 := fun_mk (st := s__law_said) l13 c13 k13
  have F13 := F013
  have b13 := F013.binds (ps := ["call"]) fun _ _ _ _ _ _ us hl => match us, hl with | [_], _ => rfl
  have F014 := fun_mk (st := s_read_on) l14 c14 k14
  have F14 := F014
  have b14 := F014.binds (ps := ["scheme", "word"]) fun _ _ _ _ _ _ us hl => match us, hl with | [_, _], _ => rfl
  have F015 := fun_mk (st := s__law_draw) l15 c15 k15
  have F15 := F015
  have b15 := F015.binds (ps := ["hand", "many"]) fun _ _ _ _ _ _ us hl => match us, hl with | [_, _], _ => rfl
  have F016 := fun_mk (st := s__law_any) l16 c16 k16
  have F16 := F016
  have b16 := F016.binds (ps := ["hand", "some"]) fun _ _ _ _ _ _ us hl => match us, hl with | [_, _], _ => rfl
  have F017 := fun_mk (st := s__law_state) l17 c17 k17
  have F17 := F017
  have b17 := F017.binds (ps := ["scheme", "word"]) fun _ _ _ _ _ _ us hl => match us, hl with | [_, _], _ => rfl
  have F018 := fun_mk (st := s__law_word) l18 c18 k18
  have F18 := F018
  have b18 := F018.binds (ps := ["hand", "signs", "most"]) fun _ _ _ _ _ _ us hl => match us, hl with | [_, _, _], _ => rfl
  have F019 := fun_mk (st := s__law_rounds) l19 c19 k19
  have F19 := F019
  have b19 := F019.binds (ps := ["hand", "signs", "states"]) fun _ _ _ _ _ _ us hl => match us, hl with | [_, _, _], _ => rfl
  have F020 := fun_mk (st := s__law_scheme) l20 c20 k20
  have F20 := F020
  have b20 := F020.binds (ps := ["hand", "most"]) fun _ _ _ _ _ _ us hl => match us, hl with | [_, _], _ => rfl
  have F21 : FunC K "law" "law" s_law fa _ cc21 := ⟨_, _, _, _, _, _, _, _, rfl, l21, c21⟩
  have F021 := fun_mk (st := s_law) l21 c21 k21
  have b21 := F021.binds (ps := ["script"]) fun _ _ _ _ _ _ us hl => match us, hl with | [_], _ => rfl
  have FI_BadScheme := fun_mk (st := s_init_BadScheme) lI_BadScheme cI_BadScheme kI_BadScheme
  have bI_BadScheme := FI_BadScheme.binds (ps := ["self", "part"]) fun _ _ _ _ _ _ us hl => match us, hl with | [_, _], _ => rfl
  have FI_CheckError := fun_mk (st := s_init_CheckError) lI_CheckError cI_CheckError kI_CheckError
  have bI_CheckError := FI_CheckError.binds (ps := ["self"]) fun _ _ _ _ _ _ us hl => match us, hl with | [_], _ => rfl
  have o_BadScheme : OwnE K C_BadScheme g_BadScheme := ownE_mk xL_BadScheme (by rfl) sa_BadScheme ga_BadScheme gg_BadScheme i1_BadScheme kC_BadScheme eC_BadScheme tC_BadScheme hC_BadScheme cl_BadScheme mO_BadScheme hn ht
  have o_CheckError : OwnE K C_CheckError g_CheckError := ownE_mk xL_CheckError (by rfl) sa_CheckError ga_CheckError gg_CheckError i1_CheckError kC_CheckError eC_CheckError tC_CheckError hC_CheckError cl_CheckError mO_CheckError hn ht
  have o_NoWord : OwnE K C_NoWord g_CheckError := ownE_mk xL_NoWord (by rfl) sa_NoWord ga_NoWord gg_NoWord i1_NoWord kC_NoWord eC_NoWord tC_NoWord hC_NoWord cl_NoWord mO_NoWord hn ht
  have XE : ErT (pgOfC K [("Scheme", C_Scheme)] [(PT21, ("law" : Str) ++ ".<locals>." ++ "<lambda>")] [("BadScheme", C_BadScheme), ("NoWord", C_NoWord)] []) mg := { cls := errCls_of rfl (List.forall_mem_cons.2 ⟨⟨_, o_BadScheme⟩, (List.forall_mem_cons.2 ⟨⟨_, o_NoWord⟩, (fun _ h => nomatch h)⟩)⟩), c_CheckError := ⟨C_CheckError, PySem.W.mg_of X hG aC_CheckError, et_all (Pr := fun _ C => PySem.W.exmOne K (.ref C) (.ref C_CheckError) = some true) (List.forall_mem_cons.2 ⟨o_CheckError.exm s_BadScheme_CheckError, (List.forall_mem_cons.2 ⟨o_CheckError.exm s_NoWord_CheckError, (fun _ h => nomatch h)⟩)⟩)⟩, k_NoWord := ⟨C_NoWord, PySem.W.mg_of X hG aC_NoWord, kitE_of rfl (List.forall_mem_cons.2 ⟨k_BadScheme_NoWord, (List.forall_mem_cons.2 ⟨k_NoWord_NoWord, (fun _ h => nomatch h)⟩)⟩)⟩, kV := kitE_of rfl (List.forall_mem_cons.2 ⟨kV_BadScheme, (List.forall_mem_cons.2 ⟨kV_NoWord, (fun _ h => nomatch h)⟩)⟩), nf_part := et_all (Pr := fun _ C => PySem.W.findIn K (.ref C) "part" = some none) (List.forall_mem_cons.2 ⟨nf_part_BadScheme, (List.forall_mem_cons.2 ⟨nf_part_NoWord, (fun _ h => nomatch h)⟩)⟩) }
  have CC_Scheme : Cls K C_Scheme := ⟨pg_Scheme, hd_Scheme, po_Scheme, sa_Scheme⟩
  have hO : ∀ c C, (pgOfC K [("Scheme", C_Scheme)] [(PT21, ("law" : Str) ++ ".<locals>." ++ "<lambda>")] [("BadScheme", C_BadScheme), ("NoWord", C_NoWord)] []).CT c = some C → ObjCls K C := et_all (Pr := fun _ C => ObjCls K C) (List.forall_mem_cons.2 ⟨⟨CC_Scheme, cl_Scheme, hn, ht, mO_Scheme, fun t => by cases t <;> assumption⟩, (fun _ h => nomatch h)⟩)
  have OF : ∀ c C, (pgOfC K [("Scheme", C_Scheme)] [(PT21, ("law" : Str) ++ ".<locals>." ++ "<lambda>")] [("BadScheme", C_BadScheme), ("NoWord", C_NoWord)] []).CT c = some C → Cls K C ∧ ∀ f ∈ (["rounds", "signs", "states"] : List Str), NoAttr K C f := et_all (Pr := fun _ C => Cls K C ∧ ∀ f ∈ (["rounds", "signs", "states"] : List Str), NoAttr K C f) (List.forall_mem_cons.2 ⟨⟨CC_Scheme, (List.forall_mem_cons.2 ⟨na_Scheme_rounds, (List.forall_mem_cons.2 ⟨na_Scheme_signs, (List.forall_mem_cons.2 ⟨na_Scheme_states, (fun _ h => nomatch h)⟩)⟩)⟩)⟩, (fun _ h => nomatch h)⟩)
  refine ⟨PySem.W.fnOf "law" "law" (defArgs s_law) (defBody s_law) (defScope s_law) .none kV21 dc21 pm21 an21 (.ref cc21) ct21, [(cc21, PT21)], lawSp (pgOfC K [("Scheme", C_Scheme)] [(PT21, ("law" : Str) ++ ".<locals>." ++ "<lambda>")] [("BadScheme", C_BadScheme), ("NoWord", C_NoWord)] []), (List.forall_mem_cons.2 ⟨tb21 fa cc21 PT21 _ _ _ _ _ _ (PySem.W.mg_of X hG a21) l21 rfl rfl lc21 pt21, (fun _ h => nomatch h)⟩), (List.forall_mem_cons.2 ⟨nP21, (fun _ h => nomatch h)⟩), (List.forall_mem_cons.2 ⟨PySem.W.codeHd_of_K X hd21, (fun _ h => nomatch h)⟩), fun s v => .of_eq rfl, fun H a ns hl _ hH hS => ⟨a, ns, rfl, hS, hl, tabs0 (List.forall_mem_cons.2 ⟨⟨cc21, by simp⟩, (fun _ h => nomatch h)⟩) hH, fun _ => rfl⟩, fun base _ _ tb => ?_⟩
  have E_BadScheme : ErC l.prog w (pgOfC K [("Scheme", C_Scheme)] [(PT21, ("law" : Str) ++ ".<locals>." ++ "<lambda>")] [("BadScheme", C_BadScheme), ("NoWord", C_NoWord)] []) mg base "BadScheme" 2 (sp1 K "part") := OwnE.er (G := (pgOfC K [("Scheme", C_Scheme)] [(PT21, ("law" : Str) ++ ".<locals>." ++ "<lambda>")] [("BadScheme", C_BadScheme), ("NoWord", C_NoWord)] [])) o_BadScheme rfl (PySem.W.mg_of X hG aC_BadScheme) tI_BadScheme bI_BadScheme (ok_init_BadScheme (PySem.W.mg_of X hG aC_CheckError) ⟨rd_CheckError, gq_CheckError⟩ c0_CheckError (ok_init_CheckError (PySem.W.mg_none_of X hG z_ValueError) vV FI_CheckError) kI_CheckError bI_CheckError FI_BadScheme)
  have N_BadScheme : ∀ C, (pgOfC K [("Scheme", C_Scheme)] [(PT21, ("law" : Str) ++ ".<locals>." ++ "<lambda>")] [("BadScheme", C_BadScheme), ("NoWord", C_NoWord)] []).ET "BadScheme" = some C → PySem.W.findIn K (.ref C) "part" = some none := fun C e => by cases e; exact nf_part_BadScheme
  have E_NoWord : ErC l.prog w (pgOfC K [("Scheme", C_Scheme)] [(PT21, ("law" : Str) ++ ".<locals>." ++ "<lambda>")] [("BadScheme", C_BadScheme), ("NoWord", C_NoWord)] []) mg base "NoWord" 1 (sp0 K) := OwnE.er (G := (pgOfC K [("Scheme", C_Scheme)] [(PT21, ("law" : Str) ++ ".<locals>." ++ "<lambda>")] [("BadScheme", C_BadScheme), ("NoWord", C_NoWord)] [])) o_NoWord rfl (PySem.W.mg_of X hG aC_NoWord) tI_CheckError bI_CheckError (ok_init_CheckError (PySem.W.mg_none_of X hG z_ValueError) vV FI_CheckError)
  have O_1 := ok__law_hand (P := l.prog) (w := w) (G := (pgOfC K [("Scheme", C_Scheme)] [(PT21, ("law" : Str) ++ ".<locals>." ++ "<lambda>")] [("BadScheme", C_BadScheme), ("NoWord", C_NoWord)] [])) (base := base) T hO OF F1 hb_hand
  have C_raw_state : Cal l.prog w (pgOfC K [("Scheme", C_Scheme)] [(PT21, ("law" : Str) ++ ".<locals>." ++ "<lambda>")] [("BadScheme", C_BadScheme), ("NoWord", C_NoWord)] []) mg base "raw_state" 1 2 T_raw_state := ⟨f2, _, ["scheme", "word"], PySem.W.mg_of X hG a2, k2, b2, ok_raw_state (P := l.prog) (w := w) (G := (pgOfC K [("Scheme", C_Scheme)] [(PT21, ("law" : Str) ++ ".<locals>." ++ "<lambda>")] [("BadScheme", C_BadScheme), ("NoWord", C_NoWord)] [])) (base := base) T hO OF F2⟩
  have C_is_sized : Cal l.prog w (pgOfC K [("Scheme", C_Scheme)] [(PT21, ("law" : Str) ++ ".<locals>." ++ "<lambda>")] [("BadScheme", C_BadScheme), ("NoWord", C_NoWord)] []) mg base "is_sized" 1 3 T_is_sized := ⟨f3, _, ["thing", "least", "most"], PySem.W.mg_of X hG a3, k3, b3, ok_is_sized (P := l.prog) (w := w) (G := (pgOfC K [("Scheme", C_Scheme)] [(PT21, ("law" : Str) ++ ".<locals>." ++ "<lambda>")] [("BadScheme", C_BadScheme), ("NoWord", C_NoWord)] [])) (base := base) T hO OF F3⟩
  have C_is_integer : Cal l.prog w (pgOfC K [("Scheme", C_Scheme)] [(PT21, ("law" : Str) ++ ".<locals>." ++ "<lambda>")] [("BadScheme", C_BadScheme), ("NoWord", C_NoWord)] []) mg base "is_integer" 1 1 T_is_integer := ⟨f4, _, ["thing"], PySem.W.mg_of X hG a4, k4, b4, ok_is_integer (P := l.prog) (w := w) (G := (pgOfC K [("Scheme", C_Scheme)] [(PT21, ("law" : Str) ++ ".<locals>." ++ "<lambda>")] [("BadScheme", C_BadScheme), ("NoWord", C_NoWord)] [])) (base := base) T hO OF F4⟩
  have C_is_within : Cal l.prog w (pgOfC K [("Scheme", C_Scheme)] [(PT21, ("law" : Str) ++ ".<locals>." ++ "<lambda>")] [("BadScheme", C_BadScheme), ("NoWord", C_NoWord)] []) mg base "is_within" 2 3 T_is_within := ⟨f5, _, ["thing", "least", "most"], PySem.W.mg_of X hG a5, k5, b5, ok_is_within (P := l.prog) (w := w) (G := (pgOfC K [("Scheme", C_Scheme)] [(PT21, ("law" : Str) ++ ".<locals>." ++ "<lambda>")] [("BadScheme", C_BadScheme), ("NoWord", C_NoWord)] [])) (base := base) T hO OF C_is_integer F5⟩
  have C_are_below : Cal l.prog w (pgOfC K [("Scheme", C_Scheme)] [(PT21, ("law" : Str) ++ ".<locals>." ++ "<lambda>")] [("BadScheme", C_BadScheme), ("NoWord", C_NoWord)] []) mg base "are_below" 3 2 T_are_below := ⟨f6, _, ["thing", "many"], PySem.W.mg_of X hG a6, k6, b6, ok_are_below (P := l.prog) (w := w) (G := (pgOfC K [("Scheme", C_Scheme)] [(PT21, ("law" : Str) ++ ".<locals>." ++ "<lambda>")] [("BadScheme", C_BadScheme), ("NoWord", C_NoWord)] [])) (base := base) T hO OF C_is_within F6⟩
  have C_is_word : Cal l.prog w (pgOfC K [("Scheme", C_Scheme)] [(PT21, ("law" : Str) ++ ".<locals>." ++ "<lambda>")] [("BadScheme", C_BadScheme), ("NoWord", C_NoWord)] []) mg base "is_word" 4 2 T_is_word := ⟨f7, _, ["many", "thing"], PySem.W.mg_of X hG a7, k7, b7, ok_is_word (P := l.prog) (w := w) (G := (pgOfC K [("Scheme", C_Scheme)] [(PT21, ("law" : Str) ++ ".<locals>." ++ "<lambda>")] [("BadScheme", C_BadScheme), ("NoWord", C_NoWord)] [])) (base := base) T hO OF C_is_sized C_are_below F7⟩
  have C_check_word : Cal l.prog w (pgOfC K [("Scheme", C_Scheme)] [(PT21, ("law" : Str) ++ ".<locals>." ++ "<lambda>")] [("BadScheme", C_BadScheme), ("NoWord", C_NoWord)] []) mg base "check_word" 5 2 T_check_word := ⟨f8, _, ["many", "thing"], PySem.W.mg_of X hG a8, k8, b8, ok_check_word (P := l.prog) (w := w) (G := (pgOfC K [("Scheme", C_Scheme)] [(PT21, ("law" : Str) ++ ".<locals>." ++ "<lambda>")] [("BadScheme", C_BadScheme), ("NoWord", C_NoWord)] [])) (base := base) T hO OF E_NoWord C_is_word F8⟩
  have C_state_of : Cal l.prog w (pgOfC K [("Scheme", C_Scheme)] [(PT21, ("law" : Str) ++ ".<locals>." ++ "<lambda>")] [("BadScheme", C_BadScheme), ("NoWord", C_NoWord)] []) mg base "state_of" 6 2 T_state_of := ⟨f9, _, ["scheme", "word"], PySem.W.mg_of X hG a9, k9, b9, ok_state_of (P := l.prog) (w := w) (G := (pgOfC K [("Scheme", C_Scheme)] [(PT21, ("law" : Str) ++ ".<locals>." ++ "<lambda>")] [("BadScheme", C_BadScheme), ("NoWord", C_NoWord)] [])) (base := base) T hO OF C_raw_state C_check_word F9⟩
  have C_is_tuple : Cal l.prog w (pgOfC K [("Scheme", C_Scheme)] [(PT21, ("law" : Str) ++ ".<locals>." ++ "<lambda>")] [("BadScheme", C_BadScheme), ("NoWord", C_NoWord)] []) mg base "is_tuple" 1 2 T_is_tuple := ⟨f10, _, ["thing", "size"], PySem.W.mg_of X hG a10, k10, b10, ok_is_tuple (P := l.prog) (w := w) (G := (pgOfC K [("Scheme", C_Scheme)] [(PT21, ("law" : Str) ++ ".<locals>." ++ "<lambda>")] [("BadScheme", C_BadScheme), ("NoWord", C_NoWord)] [])) (base := base) T hO OF F10⟩
  have M_Scheme : Mak l.prog w (pgOfC K [("Scheme", C_Scheme)] [(PT21, ("law" : Str) ++ ".<locals>." ++ "<lambda>")] [("BadScheme", C_BadScheme), ("NoWord", C_NoWord)] []) mg base "Scheme" "Scheme" 4 3 T_Scheme := ⟨C_Scheme, g_Scheme, _, ["self", "signs", "states", "rounds"], PySem.W.mg_of X hG aC_Scheme, rfl, ⟨mk_Scheme, i1_Scheme, fn_Scheme, kC_Scheme⟩, bI_Scheme, ok_Scheme (P := l.prog) (w := w) (G := (pgOfC K [("Scheme", C_Scheme)] [(PT21, ("law" : Str) ++ ".<locals>." ++ "<lambda>")] [("BadScheme", C_BadScheme), ("NoWord", C_NoWord)] [])) (base := base) T hO OF E_BadScheme N_BadScheme C_is_tuple C_are_below C_is_sized C_is_within (C := C_Scheme) rfl FI_Scheme⟩
  have C_is_good : Cal l.prog w (pgOfC K [("Scheme", C_Scheme)] [(PT21, ("law" : Str) ++ ".<locals>." ++ "<lambda>")] [("BadScheme", C_BadScheme), ("NoWord", C_NoWord)] []) mg base "is_good" 4 2 T_is_good := ⟨f12, _, ["scheme", "thing"], PySem.W.mg_of X hG a12, k12, b12, ok_is_good (P := l.prog) (w := w) (G := (pgOfC K [("Scheme", C_Scheme)] [(PT21, ("law" : Str) ++ ".<locals>." ++ "<lambda>")] [("BadScheme", C_BadScheme), ("NoWord", C_NoWord)] [])) (base := base) T hO OF C_raw_state C_is_sized C_are_below F12⟩
  have L__law_said : LamF l.prog w (pgOfC K [("Scheme", C_Scheme)] [(PT21, ("law" : Str) ++ ".<locals>." ++ "<lambda>")] [("BadScheme", C_BadScheme), ("NoWord", C_NoWord)] []) mg base "_law_said" F__law_said := lam__law_said (P := l.prog) (w := w) (G := (pgOfC K [("Scheme", C_Scheme)] [(PT21, ("law" : Str) ++ ".<locals>." ++ "<lambda>")] [("BadScheme", C_BadScheme), ("NoWord", C_NoWord)] [])) (base := base) T hO OF XE F13 (PySem.W.mg_of X hG a13) b13
  have C_read_on : Cal l.prog w (pgOfC K [("Scheme", C_Scheme)] [(PT21, ("law" : Str) ++ ".<locals>." ++ "<lambda>")] [("BadScheme", C_BadScheme), ("NoWord", C_NoWord)] []) mg base "read_on" 6 2 T_read_on := ⟨f14, _, ["scheme", "word"], PySem.W.mg_of X hG a14, k14, b14, ok_read_on (P := l.prog) (w := w) (G := (pgOfC K [("Scheme", C_Scheme)] [(PT21, ("law" : Str) ++ ".<locals>." ++ "<lambda>")] [("BadScheme", C_BadScheme), ("NoWord", C_NoWord)] [])) (base := base) T hO OF C_raw_state C_check_word F14⟩
  have C__law_draw : Cal l.prog w (pgOfC K [("Scheme", C_Scheme)] [(PT21, ("law" : Str) ++ ".<locals>." ++ "<lambda>")] [("BadScheme", C_BadScheme), ("NoWord", C_NoWord)] []) mg base "_law_draw" 1 2 wDraw := ⟨f15, _, ["hand", "many"], PySem.W.mg_of X hG a15, k15, b15, ok__law_draw (P := l.prog) (w := w) (G := (pgOfC K [("Scheme", C_Scheme)] [(PT21, ("law" : Str) ++ ".<locals>." ++ "<lambda>")] [("BadScheme", C_BadScheme), ("NoWord", C_NoWord)] [])) (base := base) T hO OF F15 hb_draw⟩
  have C__law_any : Cal l.prog w (pgOfC K [("Scheme", C_Scheme)] [(PT21, ("law" : Str) ++ ".<locals>." ++ "<lambda>")] [("BadScheme", C_BadScheme), ("NoWord", C_NoWord)] []) mg base "_law_any" 2 2 T__law_any := ⟨f16, _, ["hand", "some"], PySem.W.mg_of X hG a16, k16, b16, ok__law_any (P := l.prog) (w := w) (G := (pgOfC K [("Scheme", C_Scheme)] [(PT21, ("law" : Str) ++ ".<locals>." ++ "<lambda>")] [("BadScheme", C_BadScheme), ("NoWord", C_NoWord)] [])) (base := base) T hO OF C__law_draw F16⟩
  have C__law_state : Cal l.prog w (pgOfC K [("Scheme", C_Scheme)] [(PT21, ("law" : Str) ++ ".<locals>." ++ "<lambda>")] [("BadScheme", C_BadScheme), ("NoWord", C_NoWord)] []) mg base "_law_state" 1 2 T__law_state := ⟨f17, _, ["scheme", "word"], PySem.W.mg_of X hG a17, k17, b17, ok__law_state (P := l.prog) (w := w) (G := (pgOfC K [("Scheme", C_Scheme)] [(PT21, ("law" : Str) ++ ".<locals>." ++ "<lambda>")] [("BadScheme", C_BadScheme), ("NoWord", C_NoWord)] [])) (base := base) T hO OF F17⟩
  have C__law_word : Cal l.prog w (pgOfC K [("Scheme", C_Scheme)] [(PT21, ("law" : Str) ++ ".<locals>." ++ "<lambda>")] [("BadScheme", C_BadScheme), ("NoWord", C_NoWord)] []) mg base "_law_word" 3 3 T__law_word := ⟨f18, _, ["hand", "signs", "most"], PySem.W.mg_of X hG a18, k18, b18, ok__law_word (P := l.prog) (w := w) (G := (pgOfC K [("Scheme", C_Scheme)] [(PT21, ("law" : Str) ++ ".<locals>." ++ "<lambda>")] [("BadScheme", C_BadScheme), ("NoWord", C_NoWord)] [])) (base := base) T hO OF C__law_draw C__law_any F18⟩
  have C__law_rounds : Cal l.prog w (pgOfC K [("Scheme", C_Scheme)] [(PT21, ("law" : Str) ++ ".<locals>." ++ "<lambda>")] [("BadScheme", C_BadScheme), ("NoWord", C_NoWord)] []) mg base "_law_rounds" 2 3 T__law_rounds := ⟨f19, _, ["hand", "signs", "states"], PySem.W.mg_of X hG a19, k19, b19, ok__law_rounds (P := l.prog) (w := w) (G := (pgOfC K [("Scheme", C_Scheme)] [(PT21, ("law" : Str) ++ ".<locals>." ++ "<lambda>")] [("BadScheme", C_BadScheme), ("NoWord", C_NoWord)] [])) (base := base) T hO OF C__law_draw F19⟩
  have C__law_scheme : Cal l.prog w (pgOfC K [("Scheme", C_Scheme)] [(PT21, ("law" : Str) ++ ".<locals>." ++ "<lambda>")] [("BadScheme", C_BadScheme), ("NoWord", C_NoWord)] []) mg base "_law_scheme" 6 2 T__law_scheme := ⟨f20, _, ["hand", "most"], PySem.W.mg_of X hG a20, k20, b20, ok__law_scheme (P := l.prog) (w := w) (G := (pgOfC K [("Scheme", C_Scheme)] [(PT21, ("law" : Str) ++ ".<locals>." ++ "<lambda>")] [("BadScheme", C_BadScheme), ("NoWord", C_NoWord)] [])) (base := base) T hO OF M_Scheme C__law_draw C__law_rounds F20⟩
  exact ok_law (P := l.prog) (w := w) (G := (pgOfC K [("Scheme", C_Scheme)] [(PT21, ("law" : Str) ++ ".<locals>." ++ "<lambda>")] [("BadScheme", C_BadScheme), ("NoWord", C_NoWord)] [])) (base := base) T hO OF XE C_state_of M_Scheme C_is_good L__law_said C_read_on C__law_any C__law_state C__law_word C__law_scheme (tb (cc21, PT21) (.head _)) (.head _) ((List.forall_mem_cons.2 ⟨fun _ => rfl, (fun _ h => nomatch h)⟩)) O_1 (PySem.W.mg_of X hG a1) k1 b1 F21 hb_law
end Law
open PySem PySem.W PyProof.Rows
set_option maxRecDepth 100000 in
set_option maxHeartbeats 0 in
theorem PySem.Challenge.cw_checksigns_k05_whole_words_read_by_schem_holds : PySem.Challenge.rw_checksigns_k05_whole_words_read_by_schem.Holds := by
  w_on; o_law; k_head; (case hw => w_witness2)
  k_fill
  refine DV.walk_tabs (CX := fun w => L2.CX PySem.Challenge.pw_checksigns_k05_whole_words_read_by_schem w) (l := PySem.Challenge.rw_checksigns_k05_whole_words_read_by_schem) (k := 9) (x := "script") rfl (by decide +kernel) rfl ⟨rfl, by decide, by decide⟩ (fun w h Y => PySem.W.km_in_of Y) ?F ?G
  case G =>
    intro _ _ _ _ _ z
    obtain ⟨_, _, _, _, _, _, _, _, _, _, _, _, z⟩ := z
    exact z.elim
  case F =>
    intro w mg fa h Y KX G hmg tabs
    refine' Law.all_mk KX G hmg (tabs _ (by decide +kernel)) ?a1 ?l1 ?c1 ?k1 ?a2 ?l2 ?c2 ?k2 ?a3 ?l3 ?c3 ?k3 ?a4 ?l4 ?c4 ?k4 ?a5 ?l5 ?c5 ?k5 ?a6 ?l6 ?c6 ?k6 ?a7 ?l7 ?c7 ?k7 ?a8 ?l8 ?c8 ?k8 ?a9 ?l9 ?c9 ?k9 ?a10 ?l10 ?c10 ?k10 ?aC_Scheme ?i1_Scheme ?pg_Scheme ?hd_Scheme ?po_Scheme ?sa_Scheme ?cl_Scheme ?mO_Scheme ?mk_Scheme ?fn_Scheme ?kC_Scheme ?lI_Scheme ?cI_Scheme ?kI_Scheme ?na_Scheme_rounds ?na_Scheme_signs ?na_Scheme_states ?no_Scheme_int ?no_Scheme_bool ?no_Scheme_str ?no_Scheme_tuple ?no_Scheme_list ?no_Scheme_dict ?a12 ?l12 ?c12 ?k12 ?a13 ?l13 ?c13 ?k13 ?a14 ?l14 ?c14 ?k14 ?a15 ?l15 ?c15 ?k15 ?a16 ?l16 ?c16 ?k16 ?a17 ?l17 ?c17 ?k17 ?a18 ?l18 ?c18 ?k18 ?a19 ?l19 ?c19 ?k19 ?a20 ?l20 ?c20 ?k20 ?a21 ?l21 ?c21 ?k21 ?lc21 ?pt21 ?hd21 ?gP21 ?nP21 ?z_ValueError ?z_abs ?z_all ?z_bool ?z_enumerate ?z_int ?z_isinstance ?z_len ?z_list ?z_min ?z_range ?z_tuple ?q_MOST_LONG_checks ?q_MOST_LONG_schemes ?q_MOST_SIGNS ?q_MOST_STATES ?aC_CheckError ?aC_BadScheme ?aC_NoWord ?xL_BadScheme ?sa_BadScheme ?ga_BadScheme ?gg_BadScheme ?i1_BadScheme ?kC_BadScheme ?eC_BadScheme ?tC_BadScheme ?hC_BadScheme ?cl_BadScheme ?mO_BadScheme ?xL_CheckError ?sa_CheckError ?ga_CheckError ?gg_CheckError ?i1_CheckError ?kC_CheckError ?eC_CheckError ?tC_CheckError ?hC_CheckError ?cl_CheckError ?mO_CheckError ?xL_NoWord ?sa_NoWord ?ga_NoWord ?gg_NoWord ?i1_NoWord ?kC_NoWord ?eC_NoWord ?tC_NoWord ?hC_NoWord ?cl_NoWord ?mO_NoWord ?lI_BadScheme ?cI_BadScheme ?kI_BadScheme ?tI_BadScheme ?lI_CheckError ?cI_CheckError ?kI_CheckError ?tI_CheckError ?rd_CheckError ?gq_CheckError ?c0_CheckError ?hn ?ht ?vV ?s_BadScheme_CheckError ?k_BadScheme_NoWord ?kV_BadScheme ?nf_part_BadScheme ?s_NoWord_CheckError ?k_NoWord_NoWord ?kV_NoWord ?nf_part_NoWord
    (case a1 => k_is)
    (case l1 => k_is)
    (case c1 => k_is)
    (case k1 => k_is)
    (case a2 => k_is)
    (case l2 => k_is)
    (case c2 => k_is)
    (case k2 => k_is)
    (case a3 => k_is)
    (case l3 => k_is)
    (case c3 => k_is)
    (case k3 => k_is)
    (case a4 => k_is)
    (case l4 => k_is)
    (case c4 => k_is)
    (case k4 => k_is)
    (case a5 => k_is)
    (case l5 => k_is)
    (case c5 => k_is)
    (case k5 => k_is)
    (case a6 => k_is)
    (case l6 => k_is)
    (case c6 => k_is)
    (case k6 => k_is)
    (case a7 => k_is)
    (case l7 => k_is)
    (case c7 => k_is)
    (case k7 => k_is)
    (case a8 => k_is)
    (case l8 => k_is)
    (case c8 => k_is)
    (case k8 => k_is)
    (case a9 => k_is)
    (case l9 => k_is)
    (case c9 => k_is)
    (case k9 => k_is)
    (case a10 => k_is)
    (case l10 => k_is)
    (case c10 => k_is)
    (case k10 => k_is)
    (case aC_Scheme => k_is)
    (case i1_Scheme => k_is)
    (case pg_Scheme => k_is)
    (case hd_Scheme => k_is)
    (case po_Scheme => k_is)
    (case sa_Scheme => k_is)
    (case cl_Scheme => k_is)
    (case mO_Scheme => k_is)
    (case mk_Scheme => k_is)
    (case fn_Scheme => first | rfl | k_is)
    (case kC_Scheme => k_is)
    (case lI_Scheme => k_is)
    (case cI_Scheme => k_is)
    (case kI_Scheme => k_is)
    (case na_Scheme_rounds => k_is)
    (case na_Scheme_signs => k_is)
    (case na_Scheme_states => k_is)
    (case no_Scheme_int => first | kit_is | k_is)
    (case no_Scheme_bool => first | kit_is | k_is)
    (case no_Scheme_str => first | kit_is | k_is)
    (case no_Scheme_tuple => first | kit_is | k_is)
    (case no_Scheme_list => first | kit_is | k_is)
    (case no_Scheme_dict => first | kit_is | k_is)
    (case a12 => k_is)
    (case l12 => k_is)
    (case c12 => k_is)
    (case k12 => k_is)
    (case a13 => k_is)
    (case l13 => k_is)
    (case c13 => k_is)
    (case k13 => k_is)
    (case a14 => k_is)
    (case l14 => k_is)
    (case c14 => k_is)
    (case k14 => k_is)
    (case a15 => k_is)
    (case l15 => k_is)
    (case c15 => k_is)
    (case k15 => k_is)
    (case a16 => k_is)
    (case l16 => k_is)
    (case c16 => k_is)
    (case k16 => k_is)
    (case a17 => k_is)
    (case l17 => k_is)
    (case c17 => k_is)
    (case k17 => k_is)
    (case a18 => k_is)
    (case l18 => k_is)
    (case c18 => k_is)
    (case k18 => k_is)
    (case a19 => k_is)
    (case l19 => k_is)
    (case c19 => k_is)
    (case k19 => k_is)
    (case a20 => k_is)
    (case l20 => k_is)
    (case c20 => k_is)
    (case k20 => k_is)
    (case a21 => k_is)
    (case l21 => k_is)
    (case c21 => k_is)
    (case k21 => k_is)
    (case lc21 => k_is)
    (case pt21 => first | rfl | k_is)
    (case hd21 => first | rfl | decide +kernel)
    (case gP21 => decide)
    (case nP21 => first | rfl | decide +kernel)
    (case z_ValueError => k_is)
    (case z_abs => k_is)
    (case z_all => k_is)
    (case z_bool => k_is)
    (case z_enumerate => k_is)
    (case z_int => k_is)
    (case z_isinstance => k_is)
    (case z_len => k_is)
    (case z_list => k_is)
    (case z_min => k_is)
    (case z_range => k_is)
    (case z_tuple => k_is)
    (case q_MOST_LONG_checks => k_is)
    (case q_MOST_LONG_schemes => k_is)
    (case q_MOST_SIGNS => k_is)
    (case q_MOST_STATES => k_is)
    (case aC_CheckError => k_is)
    (case aC_BadScheme => k_is)
    (case aC_NoWord => k_is)
    (case xL_BadScheme => k_is)
    (case sa_BadScheme => k_is)
    (case ga_BadScheme => k_is)
    (case gg_BadScheme => k_is)
    (case i1_BadScheme => k_is)
    (case kC_BadScheme => k_is)
    (case eC_BadScheme => k_is)
    (case tC_BadScheme => k_is)
    (case hC_BadScheme => k_is)
    (case cl_BadScheme => k_is)
    (case mO_BadScheme => k_is)
    (case xL_CheckError => k_is)
    (case sa_CheckError => k_is)
    (case ga_CheckError => k_is)
    (case gg_CheckError => k_is)
    (case i1_CheckError => k_is)
    (case kC_CheckError => k_is)
    (case eC_CheckError => k_is)
    (case tC_CheckError => k_is)
    (case hC_CheckError => k_is)
    (case cl_CheckError => k_is)
    (case mO_CheckError => k_is)
    (case xL_NoWord => k_is)
    (case sa_NoWord => k_is)
    (case ga_NoWord => k_is)
    (case gg_NoWord => k_is)
    (case i1_NoWord => k_is)
    (case kC_NoWord => k_is)
    (case eC_NoWord => k_is)
    (case tC_NoWord => k_is)
    (case hC_NoWord => k_is)
    (case cl_NoWord => k_is)
    (case mO_NoWord => k_is)
    (case lI_BadScheme => k_is)
    (case cI_BadScheme => k_is)
    (case kI_BadScheme => k_is)
    (case tI_BadScheme => k_is)
    (case lI_CheckError => k_is)
    (case cI_CheckError => k_is)
    (case kI_CheckError => k_is)
    (case tI_CheckError => k_is)
    (case rd_CheckError => k_is)
    (case gq_CheckError => k_is)
    (case c0_CheckError => k_is)
    (case hn => k_is)
    (case ht => k_is)
    (case vV => k_is)
    (case s_BadScheme_CheckError => first | rfl | k_is)
    (case k_BadScheme_NoWord => show _ = some false; first | kit_is | k_is)
    (case kV_BadScheme => first | kit_is | k_is)
    (case nf_part_BadScheme => k_is)
    (case s_NoWord_CheckError => first | rfl | k_is)
    (case k_NoWord_NoWord => show _ = some true; first | kit_is | k_is)
    (case kV_NoWord => first | kit_is | k_is)
    (case nf_part_NoWord => k_is)

