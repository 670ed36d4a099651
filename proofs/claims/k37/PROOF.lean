import PyProof.Rows.All
import Wide.All
import OpenK.AllK
import Wide.FinOn
import HandS.ForMost
import HandS.Exc
import HandS.WordsExc
import HandS.TryOnly
import HandS.ExcOwn
import HandS.ExcInit
import HandS.IsInst
import HandS.TupAny
import HandS.TupLe
import HandS.TupMul
import HandS.Deep
import HandS.Wide
import HandS.Conv
import HandS.Zip
import HandS.Walk
import HandS.Style
import PySem.Challenge.RW_checksigns_k37_whole_two_slips_and_stret
set_option Elab.async false
set_option linter.all false
set_option maxRecDepth 100000
/-! DV1: plain data D, what of the heap stands for it (Rep), the relation of slots and heap to plain slots (Rel). -/
namespace DV
open PySem PySem.Spec PyProof.Rows L2

/-- plain data -/
inductive D where
  | non | bl (b : Bool) | int (i : Int) | str (s : Str)
  | tup (xs : List D) | lst (xs : List D) | dct (kvs : List (D × D))
  | obj (c : Str) (fs : List (Str × D))
  | frz (xs : List D)
  | hand
/-- a slot: nothing known, a value that no statement changes any more, a list (a dict) of the def's own that statements may change -/
inductive Sl where
  | no | val (d : D) | own (a : Addr) (xs : List D) | ownd (a : Addr) (kvs : List (D × D))
abbrev Env := List Sl
/-- an error: its class, its fields -/
abbrev Er := Str × List (Str × D)
/-- what is fixed of the program: the written part, the classes' places -/
structure Pg where
  K : PySem.W.Frag
  CT : Str → Option Addr
/-- the state's part that only the proof sees: addresses hidden (own lists, the hand), the hand -/
structure Zs where
  O : List Addr
  h : Option Addr
  B : List Addr := []
def vis (O : List Addr) (H : Hp) : Hp := fun b => if b ∈ O then none else H b
theorem vis_in {O : List Addr} {H : Hp} {b : Addr} (h : b ∈ O) : vis O H b = none := if_pos h
theorem vis_out {O : List Addr} {H : Hp} {b : Addr} (h : b ∉ O) : vis O H b = H b := if_neg h
theorem vis_some {O : List Addr} {H : Hp} {b : Addr} {o : HO} (e : vis O H b = some o) : b ∉ O ∧ H b = some o := by
  unfold vis at e
  split at e
  · cases e
  · rename_i q
    exact ⟨q, e⟩
def dKey : Key → D
  | .inl i => .int i
  | .inr s => .str s
def tKey (ks : List Key) : D := .tup (ks.map dKey)

mutual
/-- v stands for d in the visible heap H, the hand at hh -/
inductive Rep (G : Pg) (H : Hp) (hh : Option Addr) : V → D → Prop
  | non : Rep G H hh .non .non
  | bl (b : Bool) : Rep G H hh (.bl b) (.bl b)
  | int (i : Int) : Rep G H hh (.int i) (.int i)
  | str (s : Str) : Rep G H hh (.str s) (.str s)
  | tup {a : Addr} {vs : List V} {ds : List D} (e : SqT G.K H a vs) (r : RepL G H hh vs ds) : Rep G H hh (.ref a) (.tup ds)
  | lst {a : Addr} {vs : List V} {ds : List D} (e : H a = some (.lst vs)) (r : RepL G H hh vs ds) : Rep G H hh (.ref a) (.lst ds)
  | dK {a : Addr} {kvs : List (Key × V)} {vs : List V} {ds : List D} {kds : List (D × D)} (e : H a = some (.dK kvs)) (e1 : vs = kvs.map (·.2)) (r : RepL G H hh vs ds) (e2 : kds = (kvs.map fun p => dKey p.1).zip ds) : Rep G H hh (.ref a) (.dct kds)
  | dT {a : Addr} {kvs : List (List Key × V)} {vs : List V} {ds : List D} {kds : List (D × D)} (e : H a = some (.dT kvs)) (e1 : vs = kvs.map (·.2)) (r : RepL G H hh vs ds) (e2 : kds = (kvs.map fun p => tKey p.1).zip ds) : Rep G H hh (.ref a) (.dct kds)
  | obj {a C dx : Addr} {c : Str} {vfs : List (Str × V)} {vs : List V} {ds : List D} {fs : List (Str × D)} (ec : G.CT c = some C) (e : H a = some (.ins C dx vfs)) (e1 : vs = vfs.map (·.2)) (r : RepL G H hh vs ds) (e2 : fs = (vfs.map (·.1)).zip ds) : Rep G H hh (.ref a) (.obj c fs)
  | frz {a : Addr} {vs : List V} {ds : List D} (e : SqL G.K H a vs) (r : RepL G H hh vs ds) : Rep G H hh (.ref a) (.frz ds)
  | hand {a : Addr} (e : hh = some a) : Rep G H hh (.ref a) .hand
inductive RepL (G : Pg) (H : Hp) (hh : Option Addr) : List V → List D → Prop
  | nil : RepL G H hh [] []
  | cons {v : V} {d : D} {vs : List V} {ds : List D} (r : Rep G H hh v d) (rs : RepL G H hh vs ds) : RepL G H hh (v :: vs) (d :: ds)
end

section
variable {G : Pg} {H H' : Hp} {hh hh' : Option Addr}
theorem sqT_same {K : PySem.W.Frag} {a : Addr} {xs : List V} (e : Same H H') (h : SqT K H a xs) : SqT K H' a xs := by
  rcases h with (h | ⟨o, h⟩) | h
  · exact .inl (.inl (e _ _ h))
  · exact .inl (.inr ⟨o, e _ _ h⟩)
  · exact .inr h
mutual
theorem Rep.mono (e : Same H H') (eh : ∀ a, hh = some a → hh' = some a) : ∀ {v : V} {d : D}, Rep G H hh v d → Rep G H' hh' v d
  | _, _, .non => .non
  | _, _, .bl b => .bl b
  | _, _, .int i => .int i
  | _, _, .str s => .str s
  | _, _, .tup q r => .tup (sqT_same e q) (RepL.mono e eh r)
  | _, _, .lst q r => .lst (e _ _ q) (RepL.mono e eh r)
  | _, _, .dK q e1 r e2 => .dK (e _ _ q) e1 (RepL.mono e eh r) e2
  | _, _, .dT q e1 r e2 => .dT (e _ _ q) e1 (RepL.mono e eh r) e2
  | _, _, .obj ec q e1 r e2 => .obj ec (e _ _ q) e1 (RepL.mono e eh r) e2
  | _, _, .frz q r => .frz (e.seq q) (RepL.mono e eh r)
  | _, _, .hand q => .hand (eh _ q)
theorem RepL.mono (e : Same H H') (eh : ∀ a, hh = some a → hh' = some a) : ∀ {vs : List V} {ds : List D}, RepL G H hh vs ds → RepL G H' hh' vs ds
  | _, _, .nil => .nil
  | _, _, .cons r rs => .cons (Rep.mono e eh r) (RepL.mono e eh rs)
end
theorem RepL.length : ∀ {vs : List V} {ds : List D}, RepL G H hh vs ds → vs.length = ds.length
  | _, _, .nil => rfl
  | _, _, .cons _ rs => congrArg (· + 1) rs.length
theorem RepL.get : ∀ {vs : List V} {ds : List D} {i : Nat} {d : D}, RepL G H hh vs ds → ds[i]? = some d → ∃ v, vs[i]? = some v ∧ Rep G H hh v d
  | _, _, _, _, .nil, e => by simp at e
  | _, _, 0, _, .cons r _, e => by
    simp at e; subst e; exact ⟨_, rfl, r⟩
  | _, _, i + 1, _, .cons _ rs, e => by
    obtain ⟨v, h1, h2⟩ := RepL.get (i := i) rs (by simpa using e)
    exact ⟨v, by simpa using h1, h2⟩
theorem RepL.getV {vs : List V} {ds : List D} {i : Nat} {v : V} (h : RepL G H hh vs ds) (e : vs[i]? = some v) : ∃ d, ds[i]? = some d ∧ Rep G H hh v d := by
  have hl := h.length
  have hi : i < ds.length := by
    have := (List.getElem?_eq_some_iff.mp e).1
    omega
  obtain ⟨v', e', r⟩ := h.get (List.getElem?_eq_getElem hi)
  rw [e] at e'; cases e'
  exact ⟨_, List.getElem?_eq_getElem hi, r⟩
theorem RepL.append : ∀ {vs ws : List V} {ds es : List D}, RepL G H hh vs ds → RepL G H hh ws es → RepL G H hh (vs ++ ws) (ds ++ es)
  | _, _, _, _, .nil, s => s
  | _, _, _, _, .cons r rs, s => .cons r (RepL.append rs s)
theorem RepL.take : ∀ {vs : List V} {ds : List D} (n : Nat), RepL G H hh vs ds → RepL G H hh (vs.take n) (ds.take n)
  | _, _, 0, _ => .nil
  | _, _, _ + 1, .nil => .nil
  | _, _, n + 1, .cons r rs => .cons r (RepL.take n rs)
theorem RepL.drop : ∀ {vs : List V} {ds : List D} (n : Nat), RepL G H hh vs ds → RepL G H hh (vs.drop n) (ds.drop n)
  | _, _, 0, r => r
  | _, _, _ + 1, .nil => .nil
  | _, _, n + 1, .cons _ rs => RepL.drop n rs
theorem RepL.set {v : V} {d : D} (r : Rep G H hh v d) : ∀ {vs : List V} {ds : List D} (n : Nat), RepL G H hh vs ds → RepL G H hh (vs.set n v) (ds.set n d)
  | _, _, _, .nil => .nil
  | _, _, 0, .cons _ rs => .cons r rs
  | _, _, n + 1, .cons q rs => .cons q (RepL.set r n rs)
theorem RepL.eraseIdx : ∀ {vs : List V} {ds : List D} (n : Nat), RepL G H hh vs ds → RepL G H hh (vs.eraseIdx n) (ds.eraseIdx n)
  | _, _, _, .nil => .nil
  | _, _, 0, .cons _ rs => rs
  | _, _, n + 1, .cons q rs => .cons q (RepL.eraseIdx n rs)
theorem RepL.reverse : ∀ {vs : List V} {ds : List D}, RepL G H hh vs ds → RepL G H hh vs.reverse ds.reverse
  | _, _, .nil => .nil
  | _, _, .cons r rs => by
    rw [List.reverse_cons, List.reverse_cons]
    exact (RepL.reverse rs).append (.cons r .nil)
theorem RepL.rep {vs : List V} {ds : List D} (h : RepL G H hh vs ds) : ∀ k : Nat, RepL G H hh (List.replicate k vs).flatten (List.replicate k ds).flatten
  | 0 => .nil
  | k + 1 => by
    rw [List.replicate_succ, List.replicate_succ, List.flatten_cons, List.flatten_cons]
    exact h.append (RepL.rep h k)
/-- lists of plain numbers -/
theorem RepL.ints : ∀ {vs : List V} {ns : List Int}, RepL G H hh vs (ns.map D.int) → vs = ns.map V.int
  | _, [], h => by cases h; rfl
  | _, n :: ns, h => by
    cases h with
    | cons r rs =>
      cases r
      rw [RepL.ints rs]
      rfl
theorem RepL.of_ints : ∀ (ns : List Int), RepL G H hh (ns.map V.int) (ns.map D.int)
  | [] => .nil
  | n :: ns => .cons (.int n) (RepL.of_ints ns)
theorem RepL.bls : ∀ {vs : List V} {bs : List Bool}, RepL G H hh vs (bs.map D.bl) → vs = bs.map V.bl
  | _, [], h => by cases h; rfl
  | _, n :: ns, h => by
    cases h with
    | cons r rs =>
      cases r
      rw [RepL.bls rs]
      rfl
end

/-! ### the hand -/
/-- the hand's list: cells, place, great number, state, count -/
def HandOk (O : List Addr) (H : Hp) (a : Addr) : Prop := a ∈ O ∧ ∃ (c : Addr) (cells : List Int) (p : Nat) (big st cnt : Int), H a = some (.lst [.ref c, .int p, .int big, .int st, .int cnt]) ∧
  c ∉ O ∧ H c = some (.lst (cells.map V.int)) ∧ (∀ x ∈ cells, 0 ≤ x) ∧ 0 ≤ big ∧ 0 ≤ st ∧ 0 ≤ cnt ∧ st < 2 ^ 63

/-- the def's entry: the hidden and the heap there -/
structure Ent where
  G : Pg
  Z : Zs
  H : Hp
def SlotOk (S : Ent) (Z : Zs) (σ : L2.St) (H : Hp) (i : Nat) : Sl → Prop
  | .no => True
  | .val d => ∃ v, σ[i]? = some (some v) ∧ Rep S.G (vis Z.O H) Z.h v d
  | .own a xs => ∃ vs, σ[i]? = some (some (.ref a)) ∧ a ∈ Z.O ∧ Z.h ≠ some a ∧ S.H a = none ∧ H a = some (.lst vs) ∧ RepL S.G (vis Z.O H) Z.h vs xs
  | .ownd a kvs => ∃ vs ds, σ[i]? = some (some (.ref a)) ∧ a ∈ Z.O ∧ Z.h ≠ some a ∧ S.H a = none ∧ RepL S.G (vis Z.O H) Z.h vs ds ∧
      ((∃ hk : List (Key × V), H a = some (.dK hk) ∧ vs = hk.map (·.2) ∧ kvs = (hk.map fun p => dKey p.1).zip ds) ∨
       (∃ hk : List (List Key × V), H a = some (.dT hk) ∧ vs = hk.map (·.2) ∧ kvs = (hk.map fun p => tKey p.1).zip ds))
def Sl.owns : Sl → Bool
  | .own _ _ => true
  | .ownd _ _ => true
  | _ => false
/-- a is no slot's own -/
def NotOwned (env : Env) (σ : L2.St) (a : Addr) : Prop := ∀ (j : Nat) (x : Sl), env[j]? = some x → x.owns = true → σ[j]? ≠ some (some (V.ref a))
/-- a hidden address that no slot owns -/
structure Spare (S : Ent) (Z : Zs) (env : Env) (σ : L2.St) (a : Addr) : Prop where
  ino : a ∈ Z.O
  nh : Z.h ≠ some a
  ne : S.H a = none
  no : NotOwned env σ a
structure Rel (S : Ent) (Z : Zs) (env : Env) (σ : L2.St) (H : Hp) : Prop where
  oin : ∀ a ∈ Z.O, H a ≠ none
  sub : ∀ a ∈ S.Z.O, a ∈ Z.O
  hnd : ∀ a, Z.h = some a → HandOk Z.O H a
  hsub : Z.h = S.Z.h
  frame : ∀ b o, S.H b = some o → S.Z.h ≠ some b → H b = some o
  ehnd : ∀ a ∈ S.Z.O, S.H a ≠ none
  nhnd : ∀ a, Z.h = some a → S.Z.h = some a ∨ S.H a = none
  len : env.length = σ.length
  slots : ∀ i x, env[i]? = some x → SlotOk S Z σ H i x
  inj : ∀ (i j : Nat) (x y : Sl) (a : Addr), env[i]? = some x → env[j]? = some y → x.owns = true → y.owns = true → σ[i]? = some (some (V.ref a)) → σ[j]? = some (some (V.ref a)) → i = j
  res : ∀ a ∈ Z.B, Spare S Z env σ a

/-- what an expression leaves of the hidden and the heap: all but the hand stays -/
structure Tr (Z : Zs) (H : Hp) (Z' : Zs) (H' : Hp) : Prop where
  keep : ∀ b o, H b = some o → Z.h ≠ some b → H' b = some o
  osub : ∀ a ∈ Z'.O, a ∈ Z.O ∨ H a = none
  hh : ∀ a, Z.h = some a → Z'.h = some a
  hz : ∀ x, Z'.h = some x → Z.h = some x ∨ H x = none
  bb : Z'.B = Z.B
/-- what is visible stays so -/
structure Vle (Z : Zs) (H : Hp) (Z' : Zs) (H' : Hp) : Prop where
  same : Same (vis Z.O H) (vis Z'.O H')
  hh : ∀ a, Z.h = some a → Z'.h = some a
section
variable {S : Ent} {Z Z' Z2 : Zs} {env : Env} {σ : L2.St} {H H' H2 : Hp}
theorem Tr.refl : Tr Z H Z H := ⟨fun _ _ e _ => e, fun _ h => .inl h, fun _ h => h, fun _ h => .inl h, rfl⟩
theorem Tr.alloc (k : Same H H') : Tr Z H Z H' := ⟨fun b o e _ => k b o e, fun _ h => .inl h, fun _ h => h, fun _ h => .inl h, rfl⟩
theorem Tr.vle (t : Tr Z H Z' H') (hO : ∀ a, Z.h = some a → a ∈ Z.O) : Vle Z H Z' H' := by
  refine ⟨fun b o e => ?_, t.hh⟩
  obtain ⟨h1, h2⟩ := vis_some e
  have h3 : b ∉ Z'.O := fun hb => by
    rcases t.osub b hb with z | z
    · exact h1 z
    · rw [h2] at z; cases z
  rw [vis_out h3]
  exact t.keep b o h2 fun z => h1 (hO b z)
theorem Vle.refl : Vle Z H Z H := ⟨fun _ _ e => e, fun _ h => h⟩
theorem Vle.trans (a : Vle Z H Z' H') (b : Vle Z' H' Z2 H2) : Vle Z H Z2 H2 := ⟨a.same.trans b.same, fun x h => b.hh x (a.hh x h)⟩
theorem Vle.rep {G : Pg} {v : V} {d : D} (t : Vle Z H Z' H') (r : Rep G (vis Z.O H) Z.h v d) : Rep G (vis Z'.O H') Z'.h v d := r.mono t.same t.hh
theorem Vle.repL {G : Pg} {v : List V} {d : List D} (t : Vle Z H Z' H') (r : RepL G (vis Z.O H) Z.h v d) : RepL G (vis Z'.O H') Z'.h v d := r.mono t.same t.hh
theorem Rel.hin (R : Rel S Z env σ H) : ∀ a, Z.h = some a → a ∈ Z.O := fun a h => (R.hnd a h).1
theorem Rel.vle (R : Rel S Z env σ H) (t : Tr Z H Z' H') : Vle Z H Z' H' := t.vle R.hin
/-- R: of the state in the middle -/
theorem Tr.trans (R : Rel S Z' env σ H') (a : Tr Z H Z' H') (b : Tr Z' H' Z2 H2) : Tr Z H Z2 H2 := by
  have up : ∀ x, H' x = none → H x = none := fun x z => by
    cases q : H x with
    | none => rfl
    | some o =>
      by_cases hn : Z.h = some x
      · have := (R.hnd x (a.hh x hn)).1
        exact absurd z (R.oin x this)
      · rw [a.keep x o q hn] at z; cases z
  refine ⟨fun x o e n => b.keep x o (a.keep x o e n) fun z => ?_, fun x hx => ?_, fun x h => b.hh x (a.hh x h), fun x h => ?_, b.bb.trans a.bb⟩
  · rcases a.hz x z with q | q
    · exact n q
    · rw [e] at q; cases q
  · rcases b.osub x hx with z | z
    · exact a.osub x z
    · exact .inr (up x z)
  · rcases b.hz x h with z | z
    · exact a.hz x z
    · exact .inr (up x z)
theorem HandOk.mono {O O' : List Addr} {a : Addr} (h : HandOk O H a) (ha : a ∈ O') (hO : ∀ c, c ∉ O → H c ≠ none → c ∉ O') (k : ∀ b o, H b = some o → b = a ∨ b ∉ O → H' b = some o) : HandOk O' H' a := by
  obtain ⟨h0, c, cells, p, big, st, cnt, e1, nc, e2, q⟩ := h
  exact ⟨ha, c, cells, p, big, st, cnt, k _ _ e1 (.inl rfl), hO c nc (by rw [e2]; simp), k _ _ e2 (.inr nc), q⟩
theorem SlotOk.mono {i : Nat} {x : Sl} (h : SlotOk S Z σ H i x) (v : Vle Z H Z' H') (hO : ∀ a, x.owns = true → σ[i]? = some (some (.ref a)) → a ∈ Z.O → S.H a = none → Z.h ≠ some a → a ∈ Z'.O ∧ Z'.h ≠ some a ∧ H' a = H a) : SlotOk S Z' σ H' i x := by
  cases x with
  | no => trivial
  | val d => obtain ⟨w, e, r⟩ := h; exact ⟨w, e, v.rep r⟩
  | own a xs =>
    obtain ⟨vs, e, h1, h2, h3, h4, h5⟩ := h
    obtain ⟨q1, q2, q3⟩ := hO a rfl e h1 h3 h2
    exact ⟨vs, e, q1, q2, h3, q3.trans h4, v.repL h5⟩
  | ownd a kvs =>
    obtain ⟨vs, ds, e, h1, h2, h3, h4, h5⟩ := h
    obtain ⟨q1, q2, q3⟩ := hO a rfl e h1 h3 h2
    exact ⟨vs, ds, e, q1, q2, h3, v.repL h4, by rw [q3]; exact h5⟩
/-- new objects; the hand may have moved -/
theorem Rel.step (R : Rel S Z env σ H) (k : ∀ b o, H b = some o → Z.h ≠ some b → H' b = some o) (hd : ∀ a, Z.h = some a → HandOk Z.O H' a) : Rel S Z env σ H' := by
  have t : Tr Z H Z H' := ⟨k, fun _ h => .inl h, fun _ h => h, fun _ h => .inl h, rfl⟩
  refine ⟨fun a ha z => ?_, R.sub, hd, R.hsub, fun b o e n => ?_, R.ehnd, R.nhnd, R.len, fun i x e => ?_, R.inj, R.res⟩
  · by_cases hn : Z.h = some a
    · obtain ⟨_, _, _, _, _, _, _, q, _⟩ := hd a hn
      rw [z] at q; cases q
    · cases q : H a with
      | none => exact R.oin a ha q
      | some o => rw [k a o q hn] at z; cases z
  · refine k b o (R.frame b o e n) fun z => ?_
    rcases R.nhnd b z with q | q
    · exact n q
    · rw [e] at q; cases q
  · refine (R.slots i x e).mono (R.vle t) fun a _ _ h1 _ h2 => ⟨h1, h2, ?_⟩
    cases q : H a with
    | none => exact absurd q (R.oin a h1)
    | some o => exact k a o q h2
theorem Rel.grow (R : Rel S Z env σ H) (k : Same H H') : Rel S Z env σ H' :=
  R.step (fun b o e _ => k b o e) fun a h => (R.hnd a h).mono (R.hin a h) (fun _ n _ => n) fun b o e _ => k b o e
theorem Rel.free (R : Rel S Z env σ H) {p : Addr} (h : H p = none) : p ∉ Z.O := fun hp => R.oin p hp h
theorem Rel.fresh0 (R : Rel S Z env σ H) {p : Addr} (h : H p = none) : S.H p = none := by
  cases q : S.H p with
  | none => rfl
  | some o =>
    by_cases hn : S.Z.h = some p
    · exact absurd h (R.oin p (R.hin p (R.hsub.trans hn)))
    · rw [R.frame p o q hn] at h; cases h
theorem same_upd {p : Addr} {o : HO} (h : H p = none) : Same H (upd H p o) := fun b u e => by rw [upd_ne (ne_of_none e h)]; exact e
theorem vis_upd_in {O : List Addr} {p : Addr} {o : HO} (h : p ∈ O) : vis O (upd H p o) = vis O H := by
  funext b
  by_cases hb : b ∈ O
  · rw [vis_in hb, vis_in hb]
  · rw [vis_out hb, vis_out hb, upd_ne (fun z => hb (by rw [z]; exact h))]
theorem vis_cons {O : List Addr} {p : Addr} (h : H p = none) : vis (p :: O) H = vis O H := by
  funext b
  by_cases hb : b ∈ O
  · rw [vis_in hb, vis_in (List.mem_cons_of_mem _ hb)]
  · by_cases hp : b = p
    · subst hp; rw [vis_in List.mem_cons_self, vis_out hb, h]
    · rw [vis_out hb, vis_out (by simp [hp, hb])]
/-- a value is stored -/
theorem NotOwned.set {i : Nat} {v : Option V} {x : Sl} (hx : x.owns = false) {a : Addr} (n : NotOwned env σ a) : NotOwned (env.set i x) (σ.set i v) a := fun j y e o s => by
  by_cases hj : i = j
  · subst hj
    by_cases hi : i < env.length
    · rw [List.getElem?_set_self hi] at e; cases e; rw [hx] at o; cases o
    · rw [List.getElem?_eq_none (by simpa using hi)] at e; cases e
  · rw [List.getElem?_set_ne hj] at e s
    exact n j y e o s
theorem Rel.put (R : Rel S Z env σ H) {i : Nat} {v : V} {d : D} (r : Rep S.G (vis Z.O H) Z.h v d) : Rel S Z (env.set i (.val d)) (σ.set i (some v)) H := by
  refine ⟨R.oin, R.sub, R.hnd, R.hsub, R.frame, R.ehnd, R.nhnd, by simp [R.len], fun j x e => ?_, fun j k x y a e1 e2 o1 o2 s1 s2 => ?_, fun a ha => let q := R.res a ha; ⟨q.ino, q.nh, q.ne, q.no.set rfl⟩⟩
  · by_cases hj : i = j
    · subst hj
      by_cases hi : i < env.length
      · rw [List.getElem?_set_self hi] at e; cases e
        exact ⟨v, by rw [List.getElem?_set_self (by rw [← R.len]; exact hi)], r⟩
      · rw [List.getElem?_eq_none (by simpa using hi)] at e; cases e
    · rw [List.getElem?_set_ne hj] at e
      have := R.slots j x e
      have es : (σ.set i (some v))[j]? = σ[j]? := List.getElem?_set_ne hj
      cases x with
      | no => trivial
      | val d => obtain ⟨w, e, r⟩ := this; exact ⟨w, es.trans e, r⟩
      | own a xs => obtain ⟨vs, e, q⟩ := this; exact ⟨vs, es.trans e, q⟩
      | ownd a xs => obtain ⟨vs, ds, e, q⟩ := this; exact ⟨vs, ds, es.trans e, q⟩
  · have nj : ∀ (j : Nat) (x : Sl), (env.set i (.val d))[j]? = some x → x.owns = true → i ≠ j ∧ env[j]? = some x := fun j x e o => by
      by_cases hj : i = j
      · subst hj
        by_cases hi : i < env.length
        · rw [List.getElem?_set_self hi] at e; cases e; cases o
        · rw [List.getElem?_eq_none (by simpa using hi)] at e; cases e
      · rw [List.getElem?_set_ne hj] at e; exact ⟨hj, e⟩
    obtain ⟨n1, e1⟩ := nj j x e1 o1
    obtain ⟨n2, e2⟩ := nj k y e2 o2
    rw [List.getElem?_set_ne n1] at s1
    rw [List.getElem?_set_ne n2] at s2
    exact R.inj j k x y a e1 e2 o1 o2 s1 s2
/-- nothing is known of a slot any more -/
theorem Rel.drop1 (R : Rel S Z env σ H) {i : Nat} {v : Option V} : Rel S Z (env.set i .no) (σ.set i v) H := by
  refine ⟨R.oin, R.sub, R.hnd, R.hsub, R.frame, R.ehnd, R.nhnd, by simp [R.len], fun j x e => ?_, fun j k x y a e1 e2 o1 o2 s1 s2 => ?_, fun a ha => let q := R.res a ha; ⟨q.ino, q.nh, q.ne, q.no.set rfl⟩⟩
  · by_cases hj : i = j
    · subst hj
      by_cases hi : i < env.length
      · rw [List.getElem?_set_self hi] at e; cases e
        trivial
      · rw [List.getElem?_eq_none (by simpa using hi)] at e; cases e
    · rw [List.getElem?_set_ne hj] at e
      have := R.slots j x e
      have es : (σ.set i v)[j]? = σ[j]? := List.getElem?_set_ne hj
      cases x with
      | no => trivial
      | val d => obtain ⟨w, e, r⟩ := this; exact ⟨w, es.trans e, r⟩
      | own a xs => obtain ⟨vs, e, q⟩ := this; exact ⟨vs, es.trans e, q⟩
      | ownd a xs => obtain ⟨vs, ds, e, q⟩ := this; exact ⟨vs, ds, es.trans e, q⟩
  · have nj : ∀ (j : Nat) (x : Sl), (env.set i .no)[j]? = some x → x.owns = true → i ≠ j ∧ env[j]? = some x := fun j x e o => by
      by_cases hj : i = j
      · subst hj
        by_cases hi : i < env.length
        · rw [List.getElem?_set_self hi] at e; cases e; cases o
        · rw [List.getElem?_eq_none (by simpa using hi)] at e; cases e
      · rw [List.getElem?_set_ne hj] at e; exact ⟨hj, e⟩
    obtain ⟨n1, e1⟩ := nj j x e1 o1
    obtain ⟨n2, e2⟩ := nj k y e2 o2
    rw [List.getElem?_set_ne n1] at s1
    rw [List.getElem?_set_ne n2] at s2
    exact R.inj j k x y a e1 e2 o1 o2 s1 s2
/-- what stands at a hidden address, of an owning slot's content x -/
def OwnAt (S : Ent) (Z : Zs) (H : Hp) (a : Addr) : Sl → Prop
  | .own b xs => b = a ∧ ∃ vs, H a = some (.lst vs) ∧ RepL S.G (vis Z.O H) Z.h vs xs
  | .ownd b kvs => b = a ∧ ∃ vs ds, RepL S.G (vis Z.O H) Z.h vs ds ∧
      ((∃ hk : List (Key × V), H a = some (.dK hk) ∧ vs = hk.map (·.2) ∧ kvs = (hk.map fun p => dKey p.1).zip ds) ∨
       (∃ hk : List (List Key × V), H a = some (.dT hk) ∧ vs = hk.map (·.2) ∧ kvs = (hk.map fun p => tKey p.1).zip ds))
  | _ => False
theorem SlotOk.of_own {a : Addr} {x : Sl} {i : Nat} (e : σ[i]? = some (some (.ref a))) (h1 : a ∈ Z.O) (h2 : Z.h ≠ some a) (h3 : S.H a = none) (h : OwnAt S Z H a x) : SlotOk S Z σ H i x := by
  cases x with
  | no => exact h.elim
  | val d => exact h.elim
  | own b xs => obtain ⟨rfl, vs, q1, q2⟩ := h; exact ⟨vs, e, h1, h2, h3, q1, q2⟩
  | ownd b kvs => obtain ⟨rfl, vs, ds, q1, q2⟩ := h; exact ⟨vs, ds, e, h1, h2, h3, q1, q2⟩
theorem SlotOk.to_own {x : Sl} {i : Nat} (h : SlotOk S Z σ H i x) (o : x.owns = true) : ∃ a, σ[i]? = some (some (.ref a)) ∧ a ∈ Z.O ∧ Z.h ≠ some a ∧ S.H a = none ∧ OwnAt S Z H a x := by
  cases x with
  | no => cases o
  | val d => cases o
  | own a xs => obtain ⟨vs, e, h1, h2, h3, q1, q2⟩ := h; exact ⟨a, e, h1, h2, h3, rfl, vs, q1, q2⟩
  | ownd a kvs => obtain ⟨vs, ds, e, h1, h2, h3, q1, q2⟩ := h; exact ⟨a, e, h1, h2, h3, rfl, vs, ds, q1, q2⟩
/-- an own list is stored -/
theorem Rel.putOwn (R : Rel S Z env σ H) {i : Nat} {a : Addr} {x : Sl} (ho : x.owns = true) (h1 : a ∈ Z.O) (h2 : Z.h ≠ some a) (h3 : S.H a = none) (h : OwnAt S Z H a x) (n : NotOwned env σ a) (nb : a ∉ Z.B) : Rel S Z (env.set i x) (σ.set i (some (.ref a))) H := by
  have R0 := R.drop1 (i := i) (v := some (.ref a))
  by_cases hi : i < env.length
  · have hs : i < σ.length := by rw [← R.len]; exact hi
    refine ⟨R.oin, R.sub, R.hnd, R.hsub, R.frame, R.ehnd, R.nhnd, by simp [R.len], fun j y e => ?_, fun j k y z b e1 e2 o1 o2 s1 s2 => ?_, fun b hb => let q := R.res b hb; ⟨q.ino, q.nh, q.ne, fun j y e o s => ?_⟩⟩
    · by_cases hj : i = j
      · subst hj
        rw [List.getElem?_set_self hi] at e; cases e
        exact .of_own (by rw [List.getElem?_set_self hs]) h1 h2 h3 h
      · rw [List.getElem?_set_ne hj] at e
        exact R0.slots j y (by rw [List.getElem?_set_ne hj]; exact e)
    · have key : ∀ (j : Nat) (y : Sl), (env.set i x)[j]? = some y → y.owns = true → (σ.set i (some (V.ref a)))[j]? = some (some (V.ref b)) → (i = j ∧ b = a) ∨ (i ≠ j ∧ env[j]? = some y ∧ σ[j]? = some (some (V.ref b))) := fun j y e o s => by
        by_cases hj : i = j
        · subst hj
          rw [List.getElem?_set_self hs] at s; cases s
          exact .inl ⟨rfl, rfl⟩
        · rw [List.getElem?_set_ne hj] at e s
          exact .inr ⟨hj, e, s⟩
      rcases key j y e1 o1 s1 with ⟨p1, p2⟩ | ⟨p1, p2, p3⟩ <;> rcases key k z e2 o2 s2 with ⟨q1, q2⟩ | ⟨q1, q2, q3⟩
      · rw [← p1, ← q1]
      · exact absurd (by rw [← p2]; exact q3) (n k z q2 o2)
      · exact absurd (by rw [← q2]; exact p3) (n j y p2 o1)
      · exact R.inj j k y z b p2 q2 o1 o2 p3 q3
    · by_cases hj : i = j
      · subst hj
        rw [List.getElem?_set_self hs] at s; cases s
        exact nb hb
      · rw [List.getElem?_set_ne hj] at e s
        exact q.no j y e o s
  · have e1 : env.set i x = env := List.set_eq_of_length_le (by omega)
    have e2 : σ.set i (some (.ref a)) = σ := List.set_eq_of_length_le (by rw [← R.len]; omega)
    rw [e1, e2]; exact R
/-- an own list is written -/
theorem Rel.write (R : Rel S Z env σ H) {i : Nat} {a : Addr} {x y : Sl} {o : HO} (e : env[i]? = some x) (hx : x.owns = true) (hy : y.owns = true) (es : σ[i]? = some (some (.ref a))) (h : OwnAt S Z (upd H a o) a y) : Rel S Z (env.set i y) σ (upd H a o) := by
  obtain ⟨a', es', h1, h2, h3, _⟩ := (R.slots i x e).to_own hx
  rw [es] at es'; cases es'
  have hv : vis Z.O (upd H a o) = vis Z.O H := vis_upd_in h1
  have hi : i < env.length := (List.getElem?_eq_some_iff.mp e).1
  refine ⟨fun b hb => ?_, R.sub, fun b hb => ?_, R.hsub, fun b u q n => ?_, R.ehnd, R.nhnd, by simp [R.len], fun j z ej => ?_, fun j k z w b e1 e2 o1 o2 s1 s2 => ?_, fun b hb => let q := R.res b hb; ⟨q.ino, q.nh, q.ne, fun j z ej o s => ?_⟩⟩
  · by_cases hba : b = a
    · rw [hba, upd_same]; simp
    · rw [upd_ne hba]; exact R.oin b hb
  · refine (R.hnd b hb).mono (R.hin b hb) (fun _ n _ => n) fun c u q hc => ?_
    rw [upd_ne]
    · exact q
    · rintro rfl
      rcases hc with z | z
      · exact h2 (by rw [z]; exact hb)
      · exact z h1
  · rw [upd_ne (fun z => by rw [z, h3] at q; cases q)]
    exact R.frame b u q n
  · by_cases hj : i = j
    · subst hj
      rw [List.getElem?_set_self hi] at ej; cases ej
      exact .of_own es h1 h2 h3 h
    · rw [List.getElem?_set_ne hj] at ej
      refine (R.slots j z ej).mono ⟨fun b u q => by rw [hv]; exact q, fun _ h => h⟩ fun c oc sc g1 g2 g3 => ⟨g1, g3, ?_⟩
      rw [upd_ne]
      rintro rfl
      exact hj (R.inj i j x z c e ej hx oc es sc)
  · have key : ∀ (j : Nat) (z : Sl), (env.set i y)[j]? = some z → z.owns = true → ∃ z', env[j]? = some z' ∧ z'.owns = true := fun j z ej o => by
      by_cases hj : i = j
      · subst hj; exact ⟨x, e, hx⟩
      · rw [List.getElem?_set_ne hj] at ej; exact ⟨z, ej, o⟩
    obtain ⟨z', f1, f2⟩ := key j z e1 o1
    obtain ⟨w', g1, g2⟩ := key k w e2 o2
    exact R.inj j k z' w' b f1 g1 f2 g2 s1 s2
  · by_cases hj : i = j
    · subst hj; exact q.no i x e hx s
    · rw [List.getElem?_set_ne hj] at ej; exact q.no j z ej o s
/-- a new object is laid, hidden -/
theorem Rel.hide (R : Rel S Z env σ H) {p : Addr} {o : HO} (hp : H p = none) : Rel S ⟨p :: Z.O, Z.h, Z.B⟩ env σ (upd H p o) ∧ Tr Z H ⟨p :: Z.O, Z.h, Z.B⟩ (upd H p o) ∧ NotOwned env σ p ∧ S.H p = none ∧ Z.h ≠ some p ∧ p ∉ Z.O := by
  have hn : p ∉ Z.O := R.free hp
  have h0 := R.fresh0 hp
  have hhp : Z.h ≠ some p := fun z => hn (R.hin p z)
  have k := same_upd (o := o) hp
  have hv : vis (p :: Z.O) (upd H p o) = vis Z.O H := by
    rw [vis_upd_in List.mem_cons_self, vis_cons hp]
  have no : NotOwned env σ p := fun j x e ho s => by
    obtain ⟨a, s', q, _⟩ := (R.slots j x e).to_own ho
    rw [s] at s'; cases s'
    exact hn q
  refine ⟨⟨fun b hb => ?_, fun b hb => List.mem_cons_of_mem _ (R.sub b hb), fun b hb => ?_, R.hsub, fun b u q n => k b u (R.frame b u q n), R.ehnd, R.nhnd, R.len, fun j x e => ?_, R.inj, fun b hb => let q := R.res b hb; ⟨List.mem_cons_of_mem _ q.ino, q.nh, q.ne, q.no⟩⟩, ⟨fun b u q _ => k b u q, fun b hb => ?_, fun _ h => h, fun _ h => .inl h, rfl⟩, no, h0, hhp, hn⟩
  · rcases List.mem_cons.mp hb with rfl | hb
    · rw [upd_same]; simp
    · cases q : H b with
      | none => exact absurd q (R.oin b hb)
      | some u => rw [k b u q]; simp
  · refine (R.hnd b hb).mono (List.mem_cons_of_mem _ (R.hin b hb)) (fun c n hc z => ?_) fun c u q _ => k c u q
    rcases List.mem_cons.mp z with rfl | z
    · exact hc hp
    · exact n z
  · refine (R.slots j x e).mono ⟨fun b u q => by rw [hv]; exact q, fun _ h => h⟩ fun c oc sc g1 g2 g3 => ⟨List.mem_cons_of_mem _ g1, g3, ?_⟩
    rw [upd_ne]
    rintro rfl
    exact hn g1
  · rcases List.mem_cons.mp hb with rfl | hb
    · exact .inr hp
    · exact .inl hb
/-- a hidden object that no slot owns is shown -/
theorem Rel.unhide (R : Rel S Z env σ H) {p : Addr} (no : NotOwned env σ p) (h0 : S.H p = none) (hhp : Z.h ≠ some p) (sp : p ∉ S.Z.O) (nb : p ∉ Z.B) : Rel S ⟨Z.O.filter fun b => decide (b ≠ p), Z.h, Z.B⟩ env σ H ∧ Vle Z H ⟨Z.O.filter fun b => decide (b ≠ p), Z.h, Z.B⟩ H := by
  have mem : ∀ b, b ∈ Z.O.filter (fun b => decide (b ≠ p)) ↔ b ∈ Z.O ∧ b ≠ p := fun b => by simp
  have v : Vle Z H ⟨Z.O.filter fun b => decide (b ≠ p), Z.h, Z.B⟩ H := ⟨fun b u q => by
    obtain ⟨h1, h2⟩ := vis_some q
    rw [vis_out (fun z => h1 ((mem b).mp z).1)]; exact h2, fun _ h => h⟩
  refine ⟨⟨fun b hb => R.oin b ((mem b).mp hb).1, fun b hb => (mem b).mpr ⟨R.sub b hb, fun z => sp (by rw [← z]; exact hb)⟩, fun b hb => ?_, R.hsub, R.frame, R.ehnd, R.nhnd, R.len, fun j x e => ?_, R.inj, fun b hb => let q := R.res b hb; ⟨(mem b).mpr ⟨q.ino, fun z => nb (by rw [← z]; exact hb)⟩, q.nh, q.ne, q.no⟩⟩, v⟩
  · exact (R.hnd b hb).mono ((mem b).mpr ⟨R.hin b hb, fun z => hhp (by rw [← z]; exact hb)⟩) (fun c n _ z => n ((mem c).mp z).1) fun _ _ q _ => q
  · refine (R.slots j x e).mono v fun c oc sc g1 g2 g3 => ⟨(mem c).mpr ⟨g1, fun z => ?_⟩, g3, rfl⟩
    subst z
    exact no j x e oc sc
theorem set_getD {α : Type} {l : List (Option α)} {i : Nat} {x : Option α} (h : l[i]? = some x) : l.set i x = l := by
  apply List.ext_getElem?
  intro j
  by_cases hj : i = j
  · subst hj
    rw [List.getElem?_set_self (List.getElem?_eq_some_iff.mp h).1, h]
  · rw [List.getElem?_set_ne hj]
theorem Rel.entOut (R : Rel S Z env σ H) {a : Addr} (h : S.H a = none) : a ∉ S.Z.O := fun z => R.ehnd a z h
/-- an own list becomes a value -/
theorem Rel.freeze (R : Rel S Z env σ H) {i : Nat} {a : Addr} {xs : List D} (e : env[i]? = some (.own a xs)) :
    ∃ (Z' : Zs), σ[i]? = some (some (.ref a)) ∧ Rel S Z' (env.set i (.val (.lst xs))) σ H ∧ Tr Z H Z' H ∧ Rep S.G (vis Z'.O H) Z'.h (.ref a) (.lst xs) := by
  obtain ⟨vs, es, h1, h2, h3, h4, h5⟩ := R.slots i _ e
  have R1 := R.drop1 (i := i) (v := some (.ref a))
  rw [set_getD es] at R1
  have no : NotOwned (env.set i .no) σ a := fun j x ej o s => by
    by_cases hj : i = j
    · subst hj
      rw [List.getElem?_set_self (List.getElem?_eq_some_iff.mp e).1] at ej; cases ej; cases o
    · rw [List.getElem?_set_ne hj] at ej
      exact hj (R.inj i j _ x a e ej rfl o es s)
  obtain ⟨R2, v2⟩ := R1.unhide no h3 h2 (R.entOut h3) fun hb => (R.res a hb).no i _ e rfl es
  have rp : Rep S.G (vis (Z.O.filter fun b => decide (b ≠ a)) H) Z.h (.ref a) (.lst xs) := .lst (by rw [vis_out (by simp)]; exact h4) (v2.repL h5)
  have R3 := R2.put (i := i) rp
  rw [set_getD es, List.set_set] at R3
  exact ⟨_, es, R3, ⟨fun _ _ q _ => q, fun b hb => .inl (by simp at hb; exact hb.1), fun _ h => h, fun _ h => .inl h, rfl⟩, rp⟩
theorem Rel.freezeD (R : Rel S Z env σ H) {i : Nat} {a : Addr} {xs : List (D × D)} (e : env[i]? = some (.ownd a xs)) :
    ∃ (Z' : Zs), σ[i]? = some (some (.ref a)) ∧ Rel S Z' (env.set i (.val (.dct xs))) σ H ∧ Tr Z H Z' H ∧ Rep S.G (vis Z'.O H) Z'.h (.ref a) (.dct xs) := by
  obtain ⟨vs, ds, es, h1, h2, h3, h4, h5⟩ := R.slots i _ e
  have R1 := R.drop1 (i := i) (v := some (.ref a))
  rw [set_getD es] at R1
  have no : NotOwned (env.set i .no) σ a := fun j x ej o s => by
    by_cases hj : i = j
    · subst hj
      rw [List.getElem?_set_self (List.getElem?_eq_some_iff.mp e).1] at ej; cases ej; cases o
    · rw [List.getElem?_set_ne hj] at ej
      exact hj (R.inj i j _ x a e ej rfl o es s)
  obtain ⟨R2, v2⟩ := R1.unhide no h3 h2 (R.entOut h3) fun hb => (R.res a hb).no i _ e rfl es
  have rp : Rep S.G (vis (Z.O.filter fun b => decide (b ≠ a)) H) Z.h (.ref a) (.dct xs) := by
    rcases h5 with ⟨hk, q1, q2, q3⟩ | ⟨hk, q1, q2, q3⟩
    · exact .dK (by rw [vis_out (by simp)]; exact q1) q2 (v2.repL h4) q3
    · exact .dT (by rw [vis_out (by simp)]; exact q1) q2 (v2.repL h4) q3
  have R3 := R2.put (i := i) rp
  rw [set_getD es, List.set_set] at R3
  exact ⟨_, es, R3, ⟨fun _ _ q _ => q, fun b hb => .inl (by simp at hb; exact hb.1), fun _ h => h, fun _ h => .inl h, rfl⟩, rp⟩
/-- a spare object is kept apart, and let go -/
theorem Rel.reserve (R : Rel S Z env σ H) {p : Addr} (sp : Spare S Z env σ p) : Rel S ⟨Z.O, Z.h, p :: Z.B⟩ env σ H :=
  ⟨R.oin, R.sub, R.hnd, R.hsub, R.frame, R.ehnd, R.nhnd, R.len, R.slots, R.inj, fun b hb => by
    rcases List.mem_cons.mp hb with rfl | hb
    · exact ⟨sp.ino, sp.nh, sp.ne, sp.no⟩
    · have q := R.res b hb
      exact ⟨q.ino, q.nh, q.ne, q.no⟩⟩
theorem Rel.release (R : Rel S Z env σ H) {p : Addr} {B : List Addr} (e : Z.B = p :: B) : Rel S ⟨Z.O, Z.h, B⟩ env σ H ∧ Spare S ⟨Z.O, Z.h, B⟩ env σ p :=
  ⟨⟨R.oin, R.sub, R.hnd, R.hsub, R.frame, R.ehnd, R.nhnd, R.len, R.slots, R.inj, fun b hb => by
    have q := R.res b (by rw [e]; exact List.mem_cons_of_mem _ hb)
    exact ⟨q.ino, q.nh, q.ne, q.no⟩⟩, by
    have q := R.res p (by rw [e]; exact List.mem_cons_self)
    exact ⟨q.ino, q.nh, q.ne, q.no⟩⟩
/-- a spare object is written -/
theorem Rel.poke (R : Rel S Z env σ H) {p : Addr} {o : HO} (sp : Spare S Z env σ p) : Rel S Z env σ (upd H p o) := by
  have hv : vis Z.O (upd H p o) = vis Z.O H := vis_upd_in sp.ino
  refine ⟨fun b hb => ?_, R.sub, fun b hb => ?_, R.hsub, fun b u q n => ?_, R.ehnd, R.nhnd, R.len, fun j z ej => ?_, R.inj, R.res⟩
  · by_cases hba : b = p
    · rw [hba, upd_same]; simp
    · rw [upd_ne hba]; exact R.oin b hb
  · refine (R.hnd b hb).mono (R.hin b hb) (fun _ n _ => n) fun c u q hc => ?_
    rw [upd_ne]
    · exact q
    · rintro rfl
      rcases hc with z | z
      · exact sp.nh (by rw [z]; exact hb)
      · exact z sp.ino
  · rw [upd_ne (fun z => by rw [z, sp.ne] at q; cases q)]
    exact R.frame b u q n
  · refine (R.slots j z ej).mono ⟨fun b u q => by rw [hv]; exact q, fun _ h => h⟩ fun c oc sc g1 g2 g3 => ⟨g1, g3, ?_⟩
    rw [upd_ne]
    rintro rfl
    exact sp.no j z ej oc sc
/-- a comprehension's own slots -/
def wipeE (env : Env) : List Nat → Env
  | [] => env
  | v :: vs => (wipeE env vs).set v .no
def Sl.keep : Sl → Sl
  | .val d => .val d
  | _ => .no
def restE (env e2 : Env) : List Nat → Env
  | [] => e2
  | v :: vs => (restE env e2 vs).set v ((env[v]?.getD .no).keep)
theorem Rel.wipe (R : Rel S Z env σ H) : ∀ vs : List Nat, Rel S Z (wipeE env vs) (L2.wipe σ vs) H
  | [] => R
  | v :: vs => (R.wipe vs).drop1
def restS (σ s2 : L2.St) : List Nat → L2.St
  | [] => s2
  | v :: vs => (restS σ s2 vs).set v (σ[v]?.getD none)
theorem restS_len (σ s2 : L2.St) : ∀ vs, (restS σ s2 vs).length = s2.length
  | [] => rfl
  | v :: vs => by unfold restS; rw [List.length_set, restS_len σ s2 vs]
theorem restS_get {σ s2 : L2.St} (hl : s2.length = σ.length) (j : Nat) : ∀ vs, (restS σ s2 vs)[j]? = if j ∈ vs then σ[j]? else s2[j]?
  | [] => by simp [restS]
  | v :: vs => by
    unfold restS
    by_cases hj : v = j
    · subst hj
      rw [if_pos List.mem_cons_self]
      by_cases hv : v < σ.length
      · rw [List.getElem?_set_self (by rw [restS_len, hl]; exact hv), List.getElem?_eq_getElem hv]; rfl
      · rw [List.getElem?_eq_none (by rw [List.length_set, restS_len]; omega), List.getElem?_eq_none (by omega)]
    · rw [List.getElem?_set_ne hj, restS_get hl j vs]
      have : j ∈ v :: vs ↔ j ∈ vs := by simp [Ne.symm hj]
      simp [this]
theorem restS_wipe (σ : L2.St) (vs : List Nat) : restS σ (L2.wipe σ vs) vs = σ := by
  apply List.ext_getElem?
  intro j
  rw [restS_get (wipe_length σ vs) j vs]
  split
  · rfl
  · rename_i h; exact wipe_out h
theorem Rel.rest (R : Rel S Z env σ H) {e2 : Env} {s2 : L2.St} (v : Vle Z H Z2 H2) (R2 : Rel S Z2 e2 s2 H2) : ∀ vs : List Nat, Rel S Z2 (restE env e2 vs) (restS σ s2 vs) H2
  | [] => R2
  | i :: vs => by
    have R3 := Rel.rest R v R2 vs
    unfold restE restS
    cases e : env[i]? with
    | none => exact R3.drop1
    | some x =>
      cases x with
      | val d =>
        obtain ⟨w, es, r⟩ := R.slots i _ e
        rw [es]
        exact R3.put (v.rep r)
      | no => exact R3.drop1
      | own _ _ => exact R3.drop1
      | ownd _ _ => exact R3.drop1
/-- back from a comprehension's block -/
theorem Rel.back (R : Rel S Z env σ H) {e2 : Env} {vs : List Nat} (v : Vle Z H Z2 H2) (R2 : Rel S Z2 e2 (L2.wipe σ vs) H2) : Rel S Z2 (restE env e2 vs) σ H2 := by
  have := R.rest v R2 vs
  rw [restS_wipe] at this
  exact this
end
end DV

set_option Elab.async false
set_option linter.all false
set_option maxRecDepth 100000
/-! DV2: the judgements over plain data, and the rules of expressions. -/
namespace DV
open PySem PySem.Spec PyProof.Rows L2

abbrev Ex := Er → Env → Prop
abbrev Tm := Env → (D → Env → Prop) → Ex → Prop
abbrev Tt := Env → (Bool → Env → Prop) → Ex → Prop
abbrev TmL := Env → (List D → Env → Prop) → Ex → Prop
abbrev Tf := Env → (Sl → Env → Prop) → Ex → Prop

def ErrOk (G : Pg) (Z : Zs) (H : Hp) (cls : Value) (dd : Option Addr) (er : Er) : Prop :=
  ∃ C, G.CT er.1 = some C ∧ cls = .ref C ∧ match dd with
    | none => er.2 = []
    | some p => ∃ (vfs : List (Str × V)) (ds : List D), vis Z.O H p = some (.xd vfs) ∧ RepL G (vis Z.O H) Z.h (vfs.map (·.2)) ds ∧ er.2 = (vfs.map (·.1)).zip ds
def ExOk (S : Ent) (Z : Zs) (H : Hp) (σ : L2.St) (E : Ex) (W : WX) : Prop :=
  ∀ Z' env' cls dd er H', Rel S Z' env' σ H' → Vle Z H Z' H' → ErrOk S.G Z' H' cls dd er → E er env' → W cls dd σ H'
theorem ExOk.on {S : Ent} {Z Z' : Zs} {H H' : Hp} {σ : L2.St} {E : Ex} {W : WX} (h : ExOk S Z H σ E W) (v : Vle Z H Z' H') : ExOk S Z' H' σ E W :=
  fun Z2 env2 cls dd er H2 R v2 e q => h Z2 env2 cls dd er H2 R (v.trans v2) e q

/-- a result that may be stored; one that may only be looked at (an own list too) -/
abbrev RT := Pg → Zs → Hp → V → D → Prop
def RS : RT := fun G Z H v d => Rep G (vis Z.O H) Z.h v d
def RB : RT := fun G Z H v d => Rep G (vis Z.O H) Z.h v d ∨
  (∃ a vs xs, v = .ref a ∧ d = .lst xs ∧ Z.h ≠ some a ∧ H a = some (.lst vs) ∧ RepL G (vis Z.O H) Z.h vs xs) ∨
  (∃ a vs ds kvs, v = .ref a ∧ d = .dct kvs ∧ Z.h ≠ some a ∧ RepL G (vis Z.O H) Z.h vs ds ∧
      ((∃ hk : List (Key × V), H a = some (.dK hk) ∧ vs = hk.map (·.2) ∧ kvs = (hk.map fun p => dKey p.1).zip ds) ∨
       (∃ hk : List (List Key × V), H a = some (.dT hk) ∧ vs = hk.map (·.2) ∧ kvs = (hk.map fun p => tKey p.1).zip ds)))
theorem RB.of {G : Pg} {Z : Zs} {H : Hp} {v : V} {d : D} (h : RS G Z H v d) : RB G Z H v d := .inl h
section
variable {S : Ent} {Z Z' : Zs} {env : Env} {σ : L2.St} {H H' : Hp} {G : Pg} {v : V} {d : D}
theorem RS.on (h : RS G Z H v d) (R : Rel S Z env σ H) (t : Tr Z H Z' H') : RS G Z' H' v d := (R.vle t).rep h
theorem RB.on (h : RB G Z H v d) (R : Rel S Z env σ H) (t : Tr Z H Z' H') : RB G Z' H' v d := by
  have ne : ∀ a o, Z.h ≠ some a → H a = some o → Z'.h ≠ some a := fun a o n e z => by
    rcases t.hz a z with q | q
    · exact n q
    · rw [e] at q; cases q
  rcases h with h | ⟨a, vs, xs, rfl, rfl, n, e, r⟩ | ⟨a, vs, ds, kvs, rfl, rfl, n, r, ⟨hk, e, q⟩ | ⟨hk, e, q⟩⟩
  · exact .inl ((R.vle t).rep h)
  · exact .inr (.inl ⟨a, vs, xs, rfl, rfl, ne a _ n e, t.keep _ _ e n, (R.vle t).repL r⟩)
  · exact .inr (.inr ⟨a, vs, ds, kvs, rfl, rfl, ne a _ n e, (R.vle t).repL r, .inl ⟨hk, t.keep _ _ e n, q⟩⟩)
  · exact .inr (.inr ⟨a, vs, ds, kvs, rfl, rfl, ne a _ n e, (R.vle t).repL r, .inr ⟨hk, t.keep _ _ e n, q⟩⟩)
theorem RB.lst {xs : List D} (h : RB G Z H v (.lst xs)) : ∃ a vs, v = .ref a ∧ H a = some (.lst vs) ∧ RepL G (vis Z.O H) Z.h vs xs := by
  rcases h with h | ⟨a, vs, ys, rfl, e, n, h, r⟩ | ⟨a, vs, ds, kvs, rfl, e, _⟩
  · cases h with
    | lst e r => exact ⟨_, _, rfl, (vis_some e).2, r⟩
  · cases e; exact ⟨a, vs, rfl, h, r⟩
  · cases e
theorem sqT_vis {K : PySem.W.Frag} {O : List Addr} {a : Addr} {xs : List V} (h : SqT K (vis O H) a xs) : SqT K H a xs := sqT_same (fun _ _ e => (vis_some e).2) h
theorem RB.tup {xs : List D} (h : RB G Z H v (.tup xs)) : ∃ a vs, v = .ref a ∧ SqT G.K H a vs ∧ RepL G (vis Z.O H) Z.h vs xs := by
  rcases h with h | ⟨a, vs, ys, rfl, e, n, h, r⟩ | ⟨a, vs, ds, kvs, rfl, e, _⟩
  · cases h with
    | tup e r => exact ⟨_, _, rfl, sqT_vis e, r⟩
  · cases e
  · cases e
theorem RB.int {i : Int} (h : RB G Z H v (.int i)) : v = .int i := by
  rcases h with h | ⟨a, vs, ys, rfl, e, n, h, r⟩ | ⟨a, vs, ds, kvs, rfl, e, _⟩
  · cases h; rfl
  · cases e
  · cases e
theorem RB.bl {i : Bool} (h : RB G Z H v (.bl i)) : v = .bl i := by
  rcases h with h | ⟨a, vs, ys, rfl, e, n, h, r⟩ | ⟨a, vs, ds, kvs, rfl, e, _⟩
  · cases h; rfl
  · cases e
  · cases e
theorem RB.str {i : Str} (h : RB G Z H v (.str i)) : v = .str i := by
  rcases h with h | ⟨a, vs, ys, rfl, e, n, h, r⟩ | ⟨a, vs, ds, kvs, rfl, e, _⟩
  · cases h; rfl
  · cases e
  · cases e
theorem RB.non (h : RB G Z H v .non) : v = .non := by
  rcases h with h | ⟨a, vs, ys, rfl, e, n, h, r⟩ | ⟨a, vs, ds, kvs, rfl, e, _⟩
  · cases h; rfl
  · cases e
  · cases e
end

/-- an expression's judgement: T tells, over plain slots, what it asks and gives -/
structure DX (S : Ent) (Rr : RT) (X : Cx) (e : Expr) (T : Tm) : Prop where
  run : ∀ W, Takes X W → ∃ t, PE X e t ∧ ∀ Z env σ H Q E Q', Rel S Z env σ H → T env Q E →
    (∀ Z' env' v d H', Rel S Z' env' σ H' → Tr Z H Z' H' → Rr S.G Z' H' v d → Q d env' → Q' v H') → ExOk S Z H σ E W → t σ H Q'
abbrev DE (S : Ent) := DX S RS
abbrev DB (S : Ent) := DX S RB
/-- a test's -/
structure DT (S : Ent) (X : Cx) (e : Expr) (T : Tt) : Prop where
  run : ∀ W, Takes X W → ∃ t, PT X e t ∧ ∀ Z env σ H Q E (Q' : Bool → Hp → Prop), Rel S Z env σ H → T env Q E →
    (∀ Z' env' b H', Rel S Z' env' σ H' → Tr Z H Z' H' → Q b env' → Q' b H') → ExOk S Z H σ E W → t σ H Q'
structure DW (S : Ent) (X : Cx) (e : Expr) (T : Tt) : Prop where
  run : ∀ W, Takes X W → ∃ t, PW X e t ∧ ∀ Z env σ H Q E (Q' : Bool → Hp → Prop), Rel S Z env σ H → T env Q E →
    (∀ Z' env' b H', Rel S Z' env' σ H' → Tr Z H Z' H' → Q b env' → Q' b H') → ExOk S Z H σ E W → t σ H Q'
/-- an argument list's -/
structure DA (S : Ent) (Rr : RT) (X : Cx) (es : List Expr) (T : TmL) : Prop where
  run : ∀ W, Takes X W → ∃ t, PA X es t ∧ ∀ Z env σ H Q E (Q' : List V → Hp → Prop), Rel S Z env σ H → T env Q E →
    (∀ Z' env' vs ds H', Rel S Z' env' σ H' → Tr Z H Z' H' → vs.length = ds.length → (∀ (i : Nat) v d, vs[i]? = some v → ds[i]? = some d → Rr S.G Z' H' v d) → Q ds env' → Q' vs H') → ExOk S Z H σ E W → t σ H Q'
/-- a new list's (a new dict's) -/
structure DF (S : Ent) (X : Cx) (e : Expr) (T : Tf) : Prop where
  run : ∀ W, Takes X W → ∃ t, PE X e t ∧ ∀ Z env σ H Q E Q', Rel S Z env σ H → T env Q E →
    (∀ Z' env' a x H', Rel S Z' env' σ H' → Tr Z H Z' H' → Spare S Z' env' σ a → a ∉ Z'.B → x.owns = true → OwnAt S Z' H' a x → Q x env' → Q' (.ref a) H') → ExOk S Z H σ E W → t σ H Q'

section
variable {S : Ent} {X : Cx}
theorem RepL.of_all {G : Pg} {H : Hp} {hh : Option Addr} : ∀ {vs : List V} {ds : List D}, vs.length = ds.length → (∀ (i : Nat) v d, vs[i]? = some v → ds[i]? = some d → Rep G H hh v d) → RepL G H hh vs ds
  | [], [], _, _ => .nil
  | [], _ :: _, h, _ => by cases h
  | _ :: _, [], h, _ => by cases h
  | v :: vs, d :: ds, h, q => .cons (q 0 v d rfl rfl) (RepL.of_all (Nat.succ.inj h) fun i v d e1 e2 => q (i + 1) v d e1 e2)
theorem DB.of {e : Expr} {T : Tm} (h : DE S X e T) : DB S X e T := ⟨fun W tk => by
  obtain ⟨t, p, q⟩ := h.run W tk
  exact ⟨t, p, fun Z env σ H Q E Q' R hT k x => q Z env σ H Q E Q' R hT (fun Z' env' v d H' R' t' r hq => k Z' env' v d H' R' t' (.inl r) hq) x⟩⟩

/-! ### names and constants -/
def wVal (i : Nat) : Tm := fun env Q _ => match env[i]? with
  | some (.val d) => Q d env
  | some (.own _ xs) => Q (.lst xs) (env.set i (.val (.lst xs)))
  | some (.ownd _ xs) => Q (.dct xs) (env.set i (.val (.dct xs)))
  | _ => False
/-- looked at -/
def wLook (i : Nat) : Tm := fun env Q _ => match env[i]? with
  | some (.val d) => Q d env
  | some (.own _ xs) => Q (.lst xs) env
  | some (.ownd _ xs) => Q (.dct xs) env
  | _ => False
def wC (d : D) : Tm := fun env Q _ => Q d env
theorem dx_var (i : Nat) {x : Str} {pos : Pos} (hN : X.N[i]? = some x := by rfl) (hv : Vis X.env.scope x := by first | exact Or.inl rfl | exact Or.inr (Or.inl rfl) | exact Or.inr (Or.inr rfl)) (hd : (x == ("__debug__" : Str)) = false := by decide)
    (hcd : (x == ("__classdict__" : Str)) = false := by decide) : DE S X (.Name x pos) (wVal i) := ⟨fun W tk => ⟨_, pe_var hN hv hd hcd, fun Z env σ H Q E Q' R hT k _ => by
  unfold wVal at hT
  split at hT
  · rename_i d e
    obtain ⟨v, es, r⟩ := R.slots i _ e
    exact ⟨v, es, k Z env v d H R .refl r hT⟩
  · rename_i a xs e
    obtain ⟨Z', es, R', t, r⟩ := R.freeze e
    exact ⟨.ref a, es, k Z' _ _ _ H R' t r hT⟩
  · rename_i a xs e
    obtain ⟨Z', es, R', t, r⟩ := R.freezeD e
    exact ⟨.ref a, es, k Z' _ _ _ H R' t r hT⟩
  · exact hT.elim⟩⟩
theorem db_var (i : Nat) {x : Str} {pos : Pos} (hN : X.N[i]? = some x := by rfl) (hv : Vis X.env.scope x := by first | exact Or.inl rfl | exact Or.inr (Or.inl rfl) | exact Or.inr (Or.inr rfl)) (hd : (x == ("__debug__" : Str)) = false := by decide)
    (hcd : (x == ("__classdict__" : Str)) = false := by decide) : DB S X (.Name x pos) (wLook i) := ⟨fun W tk => ⟨_, pe_var hN hv hd hcd, fun Z env σ H Q E Q' R hT k _ => by
  unfold wLook at hT
  split at hT
  · rename_i d e
    obtain ⟨v, es, r⟩ := R.slots i _ e
    exact ⟨v, es, k Z env v d H R .refl (.inl r) hT⟩
  · rename_i a xs e
    obtain ⟨vs, es, h1, h2, h3, h4, h5⟩ := R.slots i _ e
    exact ⟨.ref a, es, k Z env _ _ H R .refl (.inr (.inl ⟨a, vs, xs, rfl, rfl, h2, h4, h5⟩)) hT⟩
  · rename_i a xs e
    obtain ⟨vs, ds, es, h1, h2, h3, h4, h5⟩ := R.slots i _ e
    exact ⟨.ref a, es, k Z env _ _ H R .refl (.inr (.inr ⟨a, vs, ds, xs, rfl, rfl, h2, h4, h5⟩)) hT⟩
  · exact hT.elim⟩⟩
theorem dx_const {e : Expr} {v : V} {d : D} (p : PE X e (tC v)) (r : ∀ G H hh, Rep G H hh v d) : DE S X e (wC d) := ⟨fun W tk => ⟨_, p, fun Z env σ H Q E Q' R hT k _ => k Z env v d H R .refl (r _ _ _) hT⟩⟩
theorem dx_int {i : Int} {j pos} : DE S X (.Constant (.int i) j pos) (wC (.int i)) := dx_const pe_int fun _ _ _ => .int i
theorem dx_bl {b j pos} : DE S X (.Constant (.bool b) j pos) (wC (.bl b)) := dx_const pe_bl fun _ _ _ => .bl b
theorem dx_non {j pos} : DE S X (.Constant .none j pos) (wC .non) := dx_const pe_non fun _ _ _ => .non
theorem dx_str {x j pos} : DE S X (.Constant (.str x) j pos) (wC (.str x)) := dx_const pe_str fun _ _ _ => .str x
/-- a module's constant: an int -/
theorem dx_globI {x : Str} {i : Int} {pos : Pos} (hm : ∃ t, X.mg x = some (.int i t)) (hg : Gl X x := by rfl) (hd : (x == ("__debug__" : Str)) = false := by decide) : DE S X (.Name x pos) (wC (.int i)) := by
  obtain ⟨t, hm⟩ := hm
  exact dx_const (pe_glob (v := .int i) hg hm ⟨t, rfl⟩ hd) fun _ _ _ => .int i

/-! ### two operands -/
def wOp (g : D → D → (D → Prop) → Prop) (Ta Tb : Tm) : Tm := fun env Q E => Ta env (fun x env1 => Tb env1 (fun y env2 => g x y fun z => Q z env2) E) E
/-- what a rule of two values gives, told over plain data: nothing but new objects comes -/
def Lift2 (G : Pg) (r : R2) (g : D → D → (D → Prop) → Prop) : Prop :=
  ∀ Z H x y dx dy (Qd : D → Prop) Q', RB G Z H x dx → RB G Z H y dy → g dx dy Qd → (∀ v d H', Same H H' → (∀ a ∈ Z.O, H a ≠ none) → RS G Z H' v d → Qd d → Q' v H') → (∀ a ∈ Z.O, H a ≠ none) → r x y H Q'
def OpD (S : Ent) (X : Cx) (f : Value → Value → Sem Value) (g : D → D → (D → Prop) → Prop) : Prop := ∃ r, OpR X f r ∧ Lift2 S.G r g
variable {a b c : Expr} {Ta Tb Tc : Tm} {pos : Pos}
theorem run2 {ta tb : TE} {r : R2} {g : D → D → (D → Prop) → Prop} (hl : Lift2 S.G r g) {W : WX}
    (ra : ∀ Z env σ H Q E Q', Rel S Z env σ H → Ta env Q E → (∀ Z' env' v d H', Rel S Z' env' σ H' → Tr Z H Z' H' → RB S.G Z' H' v d → Q d env' → Q' v H') → ExOk S Z H σ E W → ta σ H Q')
    (rb : ∀ Z env σ H Q E Q', Rel S Z env σ H → Tb env Q E → (∀ Z' env' v d H', Rel S Z' env' σ H' → Tr Z H Z' H' → RB S.G Z' H' v d → Q d env' → Q' v H') → ExOk S Z H σ E W → tb σ H Q')
    {Z : Zs} {env : Env} {σ : L2.St} {H : Hp} {Q : D → Env → Prop} {E : Ex} {Q' : VK} (R : Rel S Z env σ H) (hT : wOp g Ta Tb env Q E)
    (k : ∀ Z' env' v d H', Rel S Z' env' σ H' → Tr Z H Z' H' → RS S.G Z' H' v d → Q d env' → Q' v H') (x : ExOk S Z H σ E W) : tOp r ta tb σ H Q' := by
  refine ra Z env σ H _ E _ R hT (fun Z1 env1 v1 d1 H1 R1 t1 r1 h1 => ?_) x
  refine rb Z1 env1 σ H1 _ E _ R1 h1 (fun Z2 env2 v2 d2 H2 R2 t2 r2 h2 => ?_) (x.on (R.vle t1))
  have t12 := Tr.trans R1 t1 t2
  exact hl Z2 H2 v1 v2 d1 d2 _ _ (r1.on R1 t2) r2 h2 (fun v d H3 sm _ r3 q => k Z2 env2 v d H3 (R2.grow sm) (Tr.trans R2 t12 (.alloc sm)) r3 q) R2.oin
theorem dx_op {op : Operator} {g : D → D → (D → Prop) → Prop} (ho : OpD S X (binaryOp op) g) (ha : DB S X a Ta) (hb : DB S X b Tb) : DE S X (.BinOp a op b pos) (wOp g Ta Tb) := ⟨fun W tk => by
  obtain ⟨r, o, hl⟩ := ho
  obtain ⟨ta, pa, ra⟩ := ha.run W tk
  obtain ⟨tb, pb, rb⟩ := hb.run W tk
  exact ⟨_, pe_op o pa pb, fun Z env σ H Q E Q' R hT k x => run2 hl ra rb R hT k x⟩⟩
theorem dx_cmp {op : CmpOp} {g : D → D → (D → Prop) → Prop} (ho : OpD S X (compareOp op) g) (ha : DB S X a Ta) (hb : DB S X b Tb) (hm : behindInMarks op b = false) : DE S X (.Compare a [op] [b] pos) (wOp g Ta Tb) := ⟨fun W tk => by
  obtain ⟨r, o, hl⟩ := ho
  obtain ⟨ta, pa, ra⟩ := ha.run W tk
  obtain ⟨tb, pb, rb⟩ := hb.run W tk
  exact ⟨_, pe_cmpR o pa pb hm, fun Z env σ H Q E Q' R hT k x => run2 hl ra rb R hT k x⟩⟩
/-- an expression that gives a flag, as a test -/
def wTst (T : Tm) : Tt := fun env Q E => T env (fun d env1 => ∃ k, d = .bl k ∧ Q k env1) E
theorem dt_cmp {op : CmpOp} {g : D → D → (D → Prop) → Prop} (ho : OpD S X (compareOp op) g) (ha : DB S X a Ta) (hb : DB S X b Tb) (hm : behindInMarks op b = false) : DT S X (.Compare a [op] [b] pos) (wTst (wOp g Ta Tb)) := ⟨fun W tk => by
  obtain ⟨r, o, hl⟩ := ho
  obtain ⟨ta, pa, ra⟩ := ha.run W tk
  obtain ⟨tb, pb, rb⟩ := hb.run W tk
  refine ⟨_, pt_cmpR o pa pb hm, fun Z env σ H Q E Q' R hT k x => ?_⟩
  refine run2 hl ra rb R hT (fun Z' env' v d H' R' t r hq => ?_) x
  obtain ⟨kk, rfl, hq⟩ := hq
  exact ⟨kk, RB.bl (.inl r), k Z' env' kk H' R' t hq⟩⟩
theorem dt_val {e : Expr} {T : Tm} (h : DE S X e T) (he : ∀ whole, isTrue e X.env whole = (do let v ← whole; standAt e.pos; holding [v] (truthy v)) := by intro _; rfl) : DT S X e (wTst T) := ⟨fun W tk => by
  obtain ⟨t, p, q⟩ := h.run W tk
  refine ⟨_, pt_val p he, fun Z env σ H Q E Q' R hT k x => ?_⟩
  refine q Z env σ H _ E _ R hT (fun Z' env' v d H' R' t r hq => ?_) x
  obtain ⟨kk, rfl, hq⟩ := hq
  exact ⟨kk, RB.bl (.inl r), k Z' env' kk H' R' t hq⟩⟩
/-- a < b < c -/
def wChain (g g' : D → D → (D → Prop) → Prop) (Ta Tb Tc : Tm) : Tm := fun env Q E => Ta env (fun x env1 => Tb env1 (fun y env2 => g x y fun z => ∃ k, z = .bl k ∧ if k = true then Tc env2 (fun u env3 => g' y u fun z => Q z env3) E else Q (.bl false) env2) E) E
theorem run3 {ta tb tc : TE} {r r' : R2} {g g' : D → D → (D → Prop) → Prop} (hl : Lift2 S.G r g) (hl' : Lift2 S.G r' g') {W : WX}
    (ra : ∀ Z env σ H Q E Q', Rel S Z env σ H → Ta env Q E → (∀ Z' env' v d H', Rel S Z' env' σ H' → Tr Z H Z' H' → RB S.G Z' H' v d → Q d env' → Q' v H') → ExOk S Z H σ E W → ta σ H Q')
    (rb : ∀ Z env σ H Q E Q', Rel S Z env σ H → Tb env Q E → (∀ Z' env' v d H', Rel S Z' env' σ H' → Tr Z H Z' H' → RB S.G Z' H' v d → Q d env' → Q' v H') → ExOk S Z H σ E W → tb σ H Q')
    (rc : ∀ Z env σ H Q E Q', Rel S Z env σ H → Tc env Q E → (∀ Z' env' v d H', Rel S Z' env' σ H' → Tr Z H Z' H' → RB S.G Z' H' v d → Q d env' → Q' v H') → ExOk S Z H σ E W → tc σ H Q')
    {Z : Zs} {env : Env} {σ : L2.St} {H : Hp} {Q : D → Env → Prop} {E : Ex} {Q' : VK} (R : Rel S Z env σ H) (hT : wChain g g' Ta Tb Tc env Q E)
    (k : ∀ Z' env' v d H', Rel S Z' env' σ H' → Tr Z H Z' H' → RS S.G Z' H' v d → Q d env' → Q' v H') (x : ExOk S Z H σ E W) : tChain r r' ta tb tc σ H Q' := by
  refine ra Z env σ H _ E _ R hT (fun Z1 env1 v1 d1 H1 R1 t1 r1 h1 => ?_) x
  refine rb Z1 env1 σ H1 _ E _ R1 h1 (fun Z2 env2 v2 d2 H2 R2 t2 r2 h2 => ?_) (x.on (R.vle t1))
  have t12 := Tr.trans R1 t1 t2
  refine hl Z2 H2 v1 v2 d1 d2 _ _ (r1.on R1 t2) r2 h2 (fun v d H3 sm oin r3 q => ?_) R2.oin
  have R3 := R2.grow sm
  have t123 := Tr.trans R2 t12 (.alloc sm)
  obtain ⟨kk, rfl, q⟩ := q
  refine ⟨kk, RB.bl (.inl r3), ?_⟩
  cases kk with
  | false => exact k Z2 env2 _ _ H3 R3 t123 (.bl false) q
  | true =>
    refine rc Z2 env2 σ H3 _ E _ R3 q (fun Z4 env4 v4 d4 H4 R4 t4 r4 h4 => ?_) (x.on (R.vle t123))
    have t4' := Tr.trans R3 t123 t4
    exact hl' Z4 H4 v2 v4 d2 d4 _ _ ((r2.on R2 (.alloc sm)).on R3 t4) r4 h4 (fun v d H5 sm _ r5 q => k Z4 env4 v d H5 (R4.grow sm) (Tr.trans R4 t4' (.alloc sm)) r5 q) R4.oin
theorem dx_chain {op op' : CmpOp} {g g' : D → D → (D → Prop) → Prop} (ho : OpD S X (compareOp op) g) (ho' : OpD S X (compareOp op') g') (ha : DB S X a Ta) (hb : DB S X b Tb) (hc : DB S X c Tc)
    (hm : lastMarks [op, op'] [b, c] = false := by with_unfolding_all rfl) : DE S X (.Compare a [op, op'] [b, c] pos) (wChain g g' Ta Tb Tc) := ⟨fun W tk => by
  obtain ⟨r, o, hl⟩ := ho
  obtain ⟨r', o', hl'⟩ := ho'
  obtain ⟨ta, pa, ra⟩ := ha.run W tk
  obtain ⟨tb, pb, rb⟩ := hb.run W tk
  obtain ⟨tc, pc, rc⟩ := hc.run W tk
  exact ⟨_, pe_chain o o' pa pb pc hm, fun Z env σ H Q E Q' R hT k x => run3 hl hl' ra rb rc R hT k x⟩⟩
theorem dt_chain {op op' : CmpOp} {g g' : D → D → (D → Prop) → Prop} (ho : OpD S X (compareOp op) g) (ho' : OpD S X (compareOp op') g') (ha : DB S X a Ta) (hb : DB S X b Tb) (hc : DB S X c Tc)
    (hm : lastMarks [op, op'] [b, c] = false := by with_unfolding_all rfl) : DT S X (.Compare a [op, op'] [b, c] pos) (wTst (wChain g g' Ta Tb Tc)) := ⟨fun W tk => by
  obtain ⟨r, o, hl⟩ := ho
  obtain ⟨r', o', hl'⟩ := ho'
  obtain ⟨ta, pa, ra⟩ := ha.run W tk
  obtain ⟨tb, pb, rb⟩ := hb.run W tk
  obtain ⟨tc, pc, rc⟩ := hc.run W tk
  refine ⟨_, pt_chain o o' pa pb pc hm, fun Z env σ H Q E Q' R hT k x => ?_⟩
  refine run3 hl hl' ra rb rc R hT (fun Z' env' v d H' R' t r hq => ?_) x
  obtain ⟨kk, rfl, hq⟩ := hq
  exact ⟨kk, RB.bl (.inl r), k Z' env' kk H' R' t hq⟩⟩

/-! ### and, or, not, a if t else b -/
variable {A B : Tt} {rest : List Expr} {e : Expr}
def wAnd (A B : Tt) : Tt := fun env Q E => A env (fun k env1 => if k = true then B env1 Q E else Q false env1) E
def wOr (A B : Tt) : Tt := fun env Q E => A env (fun k env1 => if k = true then Q true env1 else B env1 Q E) E
def wNot (A : Tt) : Tt := fun env Q E => A env (fun k env1 => Q (!k) env1) E
theorem DW.dt (h : DW S X e A) : DT S X e A := ⟨fun W tk => by
  obtain ⟨t, p, q⟩ := h.run W tk
  exact ⟨t, p.pt, q⟩⟩
theorem dw_and1 (h : DT S X a A) : DW S X (.BoolOp .And [a] pos) A := ⟨fun W tk => by
  obtain ⟨t, p, q⟩ := h.run W tk
  exact ⟨t, pw_and1 p, q⟩⟩
theorem dw_or1 (h : DT S X a A) : DW S X (.BoolOp .Or [a] pos) A := ⟨fun W tk => by
  obtain ⟨t, p, q⟩ := h.run W tk
  exact ⟨t, pw_or1 p, q⟩⟩
theorem dw_and (ha : DT S X a A) (hb : DW S X (.BoolOp .And (b :: rest) pos) B) : DW S X (.BoolOp .And (a :: b :: rest) pos) (wAnd A B) := ⟨fun W tk => by
  obtain ⟨ta, pa, qa⟩ := ha.run W tk
  obtain ⟨tb, pb, qb⟩ := hb.run W tk
  refine ⟨_, pw_and pa pb, fun Z env σ H Q E Q' R hT k x => ?_⟩
  refine qa Z env σ H _ E _ R hT (fun Z1 env1 kk H1 R1 t1 h1 => ?_) x
  cases kk with
  | true =>
    rw [if_pos rfl] at h1 ⊢
    exact qb Z1 env1 σ H1 Q E Q' R1 h1 (fun Z2 env2 b H2 R2 t2 q => k Z2 env2 b H2 R2 (Tr.trans R1 t1 t2) q) (x.on (R.vle t1))
  | false =>
    rw [if_neg Bool.false_ne_true] at h1 ⊢
    exact k Z1 env1 false H1 R1 t1 h1⟩
theorem dw_or (ha : DT S X a A) (hb : DW S X (.BoolOp .Or (b :: rest) pos) B) : DW S X (.BoolOp .Or (a :: b :: rest) pos) (wOr A B) := ⟨fun W tk => by
  obtain ⟨ta, pa, qa⟩ := ha.run W tk
  obtain ⟨tb, pb, qb⟩ := hb.run W tk
  refine ⟨_, pw_or pa pb, fun Z env σ H Q E Q' R hT k x => ?_⟩
  refine qa Z env σ H _ E _ R hT (fun Z1 env1 kk H1 R1 t1 h1 => ?_) x
  cases kk with
  | true =>
    rw [if_pos rfl] at h1 ⊢
    exact k Z1 env1 true H1 R1 t1 h1
  | false =>
    rw [if_neg Bool.false_ne_true] at h1 ⊢
    exact qb Z1 env1 σ H1 Q E Q' R1 h1 (fun Z2 env2 b H2 R2 t2 q => k Z2 env2 b H2 R2 (Tr.trans R1 t1 t2) q) (x.on (R.vle t1))⟩
theorem dt_not (h : DT S X a A) : DT S X (.UnaryOp .Not a pos) (wNot A) := ⟨fun W tk => by
  obtain ⟨t, p, q⟩ := h.run W tk
  refine ⟨_, pt_not p, fun Z env σ H Q E Q' R hT k x => ?_⟩
  exact q Z env σ H _ E _ R hT (fun Z1 env1 kk H1 R1 t1 h1 => k Z1 env1 _ H1 R1 t1 h1) x⟩
/-- .. as values: flags -/
def wAndV (Ta Tb : Tm) : Tm := fun env Q E => Ta env (fun d env1 => ∃ k, d = .bl k ∧ if k = true then Tb env1 Q E else Q (.bl false) env1) E
def wOrV (Ta Tb : Tm) : Tm := fun env Q E => Ta env (fun d env1 => ∃ k, d = .bl k ∧ if k = true then Q (.bl true) env1 else Tb env1 Q E) E
def wNotV (Ta : Tm) : Tm := fun env Q E => Ta env (fun d env1 => ∃ k, d = .bl k ∧ Q (.bl (!k)) env1) E
theorem dx_one {op} {T : Tm} (h : DE S X a T) : DE S X (.BoolOp op [a] pos) T := ⟨fun W tk => by
  obtain ⟨t, p, q⟩ := h.run W tk
  exact ⟨t, pe_one p, q⟩⟩
theorem dx_and (ha : DE S X a Ta) (hb : DE S X (.BoolOp .And (b :: rest) pos) Tb) : DE S X (.BoolOp .And (a :: b :: rest) pos) (wAndV Ta Tb) := ⟨fun W tk => by
  obtain ⟨ta, pa, qa⟩ := ha.run W tk
  obtain ⟨tb, pb, qb⟩ := hb.run W tk
  refine ⟨_, pe_and pa pb, fun Z env σ H Q E Q' R hT k x => ?_⟩
  refine qa Z env σ H _ E _ R hT (fun Z1 env1 v d H1 R1 t1 r1 h1 => ?_) x
  obtain ⟨kk, rfl, h1⟩ := h1
  refine ⟨kk, RB.bl (.inl r1), ?_⟩
  cases kk with
  | true =>
    rw [if_pos rfl] at h1 ⊢
    exact qb Z1 env1 σ H1 Q E Q' R1 h1 (fun Z2 env2 v d H2 R2 t2 r q => k Z2 env2 v d H2 R2 (Tr.trans R1 t1 t2) r q) (x.on (R.vle t1))
  | false =>
    rw [if_neg Bool.false_ne_true] at h1 ⊢
    exact k Z1 env1 _ _ H1 R1 t1 (.bl false) h1⟩
theorem dx_or (ha : DE S X a Ta) (hb : DE S X (.BoolOp .Or (b :: rest) pos) Tb) : DE S X (.BoolOp .Or (a :: b :: rest) pos) (wOrV Ta Tb) := ⟨fun W tk => by
  obtain ⟨ta, pa, qa⟩ := ha.run W tk
  obtain ⟨tb, pb, qb⟩ := hb.run W tk
  refine ⟨_, pe_or pa pb, fun Z env σ H Q E Q' R hT k x => ?_⟩
  refine qa Z env σ H _ E _ R hT (fun Z1 env1 v d H1 R1 t1 r1 h1 => ?_) x
  obtain ⟨kk, rfl, h1⟩ := h1
  refine ⟨kk, RB.bl (.inl r1), ?_⟩
  cases kk with
  | true =>
    rw [if_pos rfl] at h1 ⊢
    exact k Z1 env1 _ _ H1 R1 t1 (.bl true) h1
  | false =>
    rw [if_neg Bool.false_ne_true] at h1 ⊢
    exact qb Z1 env1 σ H1 Q E Q' R1 h1 (fun Z2 env2 v d H2 R2 t2 r q => k Z2 env2 v d H2 R2 (Tr.trans R1 t1 t2) r q) (x.on (R.vle t1))⟩
theorem dx_not (ha : DE S X a Ta) : DE S X (.UnaryOp .Not a pos) (wNotV Ta) := ⟨fun W tk => by
  obtain ⟨ta, pa, qa⟩ := ha.run W tk
  refine ⟨_, pe_not pa, fun Z env σ H Q E Q' R hT k x => ?_⟩
  refine qa Z env σ H _ E _ R hT (fun Z1 env1 v d H1 R1 t1 r1 h1 => ?_) x
  obtain ⟨kk, rfl, h1⟩ := h1
  exact ⟨kk, RB.bl (.inl r1), k Z1 env1 _ _ H1 R1 t1 (.bl _) h1⟩⟩
def wIf (A : Tt) (Ta Tb : Tm) : Tm := fun env Q E => A env (fun k env1 => if k = true then Ta env1 Q E else Tb env1 Q E) E
theorem dx_if {Rr : RT} {c : Expr} (hc : DT S X c A) (ha : DX S Rr X a Ta) (hb : DX S Rr X b Tb) : DX S Rr X (.IfExp c a b pos) (wIf A Ta Tb) := ⟨fun W tk => by
  obtain ⟨tc, pc, qc⟩ := hc.run W tk
  obtain ⟨ta, pa, qa⟩ := ha.run W tk
  obtain ⟨tb, pb, qb⟩ := hb.run W tk
  refine ⟨_, pe_ifExp pc pa pb, fun Z env σ H Q E Q' R hT k x => ?_⟩
  refine qc Z env σ H _ E _ R hT (fun Z1 env1 kk H1 R1 t1 h1 => ?_) x
  cases kk with
  | true =>
    rw [if_pos rfl] at h1 ⊢
    exact qa Z1 env1 σ H1 Q E Q' R1 h1 (fun Z2 env2 v d H2 R2 t2 r q => k Z2 env2 v d H2 R2 (Tr.trans R1 t1 t2) r q) (x.on (R.vle t1))
  | false =>
    rw [if_neg Bool.false_ne_true] at h1 ⊢
    exact qb Z1 env1 σ H1 Q E Q' R1 h1 (fun Z2 env2 v d H2 R2 t2 r q => k Z2 env2 v d H2 R2 (Tr.trans R1 t1 t2) r q) (x.on (R.vle t1))⟩

/-! ### argument lists, displays -/
variable {es : List Expr} {Tr' : TmL}
def wNil : TmL := fun env Q _ => Q [] env
def wCons (Ta : Tm) (T : TmL) : TmL := fun env Q E => Ta env (fun d env1 => T env1 (fun ds env2 => Q (d :: ds) env2) E) E
theorem da_nil {Rr : RT} : DA S Rr X [] wNil := ⟨fun W tk => ⟨_, pa_nil, fun Z env σ H Q E Q' R hT k x => k Z env [] [] H R .refl rfl (fun i v d e _ => by simp at e) hT⟩⟩
theorem da_cons {Rr : RT} (ron : ∀ {Z env σ H Z' H' v d}, Rr S.G Z H v d → Rel S Z env σ H → Tr Z H Z' H' → Rr S.G Z' H' v d) (ha : DX S Rr X e Ta) (hr : DA S Rr X es Tr') (hs : starEach (e :: es) X.env = (false, eval e X.env) :: starEach es X.env := by rfl) :
    DA S Rr X (e :: es) (wCons Ta Tr') := ⟨fun W tk => by
  obtain ⟨ta, pa, qa⟩ := ha.run W tk
  obtain ⟨tr, pr, qr⟩ := hr.run W tk
  refine ⟨_, pa_cons pa pr hs, fun Z env σ H Q E Q' R hT k x => ?_⟩
  refine qa Z env σ H _ E _ R hT (fun Z1 env1 v d H1 R1 t1 r1 h1 => ?_) x
  refine qr Z1 env1 σ H1 _ E _ R1 h1 (fun Z2 env2 vs ds H2 R2 t2 hl r2 h2 => ?_) (x.on (R.vle t1))
  refine k Z2 env2 _ (d :: ds) H2 R2 (Tr.trans R1 t1 t2) (congrArg (· + 1) hl) (fun i v' d' e1 e2 => ?_) h2
  cases i with
  | zero => simp at e1 e2; subst e1 e2; exact ron r1 R1 t2
  | succ i => exact r2 i v' d' (by simpa using e1) (by simpa using e2)⟩
theorem da_cS (ha : DE S X e Ta) (hr : DA S RS X es Tr') (hs : starEach (e :: es) X.env = (false, eval e X.env) :: starEach es X.env := by rfl) : DA S RS X (e :: es) (wCons Ta Tr') :=
  da_cons (fun h R t => RS.on h R t) ha hr hs
theorem da_cB (ha : DB S X e Ta) (hr : DA S RB X es Tr') (hs : starEach (e :: es) X.env = (false, eval e X.env) :: starEach es X.env := by rfl) : DA S RB X (e :: es) (wCons Ta Tr') :=
  da_cons (fun h R t => RB.on h R t) ha hr hs
def big : Nat := 10000000
theorem big_line {n : Nat} (h : n ≤ big) : n ≤ sizeLine := by rw [sizeLine_eq]; unfold big at h; omega
section
variable {G : Pg} {Z : Zs} {H : Hp} {p : Addr} {vs : List V} {ds : List D}
theorem same_vis {O : List Addr} {H H' : Hp} (k : Same H H') : Same (vis O H) (vis O H') := fun b o e => by
  obtain ⟨h1, h2⟩ := vis_some e
  rw [vis_out h1]; exact k b o h2
theorem new_tup (oin : ∀ a ∈ Z.O, H a ≠ none) (hp : H p = none) (r : RepL G (vis Z.O H) Z.h vs ds) : RS G Z (upd H p (.tup vs)) (.ref p) (.tup ds) := by
  have hn : p ∉ Z.O := fun z => oin p z hp
  exact .tup (SqT.of (by rw [vis_out hn, upd_same])) (r.mono (same_vis (same_upd hp)) fun _ h => h)
theorem new_lst (oin : ∀ a ∈ Z.O, H a ≠ none) (hp : H p = none) (r : RepL G (vis Z.O H) Z.h vs ds) : RS G Z (upd H p (.lst vs)) (.ref p) (.lst ds) := by
  have hn : p ∉ Z.O := fun z => oin p z hp
  exact .lst (by rw [vis_out hn, upd_same]) (r.mono (same_vis (same_upd hp)) fun _ h => h)
end
def wTup (T : TmL) : Tm := fun env Q E => T env (fun ds env1 => ds.length ≤ big ∧ Q (.tup ds) env1) E
theorem dx_tup {x1} (h : DA S RS X es Tr') : DE S X (.Tuple es x1 pos) (wTup Tr') := ⟨fun W tk => by
  obtain ⟨t, p, q⟩ := h.run W tk
  refine ⟨_, pe_tup p, fun Z env σ H Q E Q' R hT k x => ?_⟩
  refine q Z env σ H _ E _ R hT (fun Z1 env1 vs ds H1 R1 t1 hl r1 h1 => ?_) x
  obtain ⟨hz, h1⟩ := h1
  refine ⟨by rw [hl]; exact big_line hz, fun p hp => ?_⟩
  exact k Z1 env1 _ _ _ (R1.grow (same_upd hp)) (Tr.trans R1 t1 (.alloc (same_upd hp))) (new_tup R1.oin hp (.of_all hl r1)) h1⟩
def wLst (T : TmL) : Tf := fun env Q E => T env (fun ds env1 => ds.length ≤ big ∧ ∀ a, Q (.own a ds) env1) E
theorem df_lst (h : DA S RS X es Tr') : DF S X (.List es pos) (wLst Tr') := ⟨fun W tk => by
  obtain ⟨t, p, q⟩ := h.run W tk
  refine ⟨_, pe_lst p, fun Z env σ H Q E Q' R hT k x => ?_⟩
  refine q Z env σ H _ E _ R hT (fun Z1 env1 vs ds H1 R1 t1 hl r1 h1 => ?_) x
  obtain ⟨hz, h1⟩ := h1
  refine ⟨by rw [hl]; exact big_line hz, fun p hp => ?_⟩
  obtain ⟨R2, t2, no, h0, hh, hn⟩ := R1.hide (o := .lst vs) hp
  refine k _ env1 p (.own p ds) _ R2 (Tr.trans R1 t1 t2) ⟨List.mem_cons_self, hh, h0, no⟩ (fun hb => hn (R1.res p hb).ino) rfl ⟨rfl, vs, upd_same, ?_⟩ (h1 p)
  exact (R1.vle t2).repL (.of_all hl r1)⟩
/-- a new list as a value -/
def Sl.toD : Sl → D
  | .own _ xs => .lst xs
  | .ownd _ xs => .dct xs
  | .val d => d
  | .no => .non
def wF (T : Tf) : Tm := fun env Q E => T env (fun x env1 => Q x.toD env1) E
theorem OwnAt.show {Z : Zs} {H : Hp} {p : Addr} {x : Sl} (h : OwnAt S Z H p x) {Z' : Zs} (v : Vle Z H Z' H) (hn : p ∉ Z'.O) : RS S.G Z' H (.ref p) x.toD := by
  cases x with
  | no => exact h.elim
  | val d => exact h.elim
  | own b xs =>
    obtain ⟨rfl, vs, q1, q2⟩ := h
    exact .lst (by rw [vis_out hn]; exact q1) (v.repL q2)
  | ownd b kvs =>
    obtain ⟨rfl, vs, ds, q1, ⟨hk, e1, e2, e3⟩ | ⟨hk, e1, e2, e3⟩⟩ := h
    · exact .dK (by rw [vis_out hn]; exact e1) e2 (v.repL q1) e3
    · exact .dT (by rw [vis_out hn]; exact e1) e2 (v.repL q1) e3
theorem dx_f {T : Tf} (h : DF S X e T) : DE S X e (wF T) := ⟨fun W tk => by
  obtain ⟨t, p, q⟩ := h.run W tk
  refine ⟨_, p, fun Z env σ H Q E Q' R hT k x => ?_⟩
  refine q Z env σ H _ E _ R hT (fun Z1 env1 a y H1 R1 t1 sp nb hy oa h1 => ?_) x
  obtain ⟨R2, v2⟩ := R1.unhide sp.no sp.ne sp.nh (R1.entOut sp.ne) nb
  refine k _ env1 (.ref a) y.toD H1 R2 ?_ (oa.show v2 (by simp)) h1
  exact Tr.trans R1 t1 ⟨fun _ _ q _ => q, fun b hb => .inl (by simp at hb; exact hb.1), fun _ h => h, fun _ h => .inl h, rfl⟩⟩
end
end DV

set_option Elab.async false
set_option linter.all false
set_option maxRecDepth 100000
/-! DV3: operators over plain data. -/
namespace DV
open PySem PySem.Spec PyProof.Rows L2

abbrev G2 := D → D → (D → Prop) → Prop
section
variable {S : Ent} {X : Cx}
theorem Same.rfl' {H : Hp} : Same H H := fun _ _ e => e
/-! ### plus, minus, times, the rest -/
def gAdd : G2 := fun x y Q => match x, y with
  | .int i, .int j => Q (.int (i + j))
  | .str a, .str b => a.length + b.length ≤ big ∧ Q (.str (a ++ b))
  | .tup xs, .tup ys => xs.length + ys.length ≤ big ∧ Q (.tup (xs ++ ys))
  | .lst xs, .lst ys => xs.length + ys.length ≤ big ∧ Q (.lst (xs ++ ys))
  | _, _ => False
theorem od_add (hK : X.K = S.G.K) : OpD S X (binaryOp .Add) gAdd := by
  refine ⟨_, op_add.or (op_add_str.or (op_catA.or op_cat)), fun Z H x y dx dy Qd Q' rx ry hg k oin => ?_⟩
  unfold gAdd at hg
  split at hg
  · rw [rx.int, ry.int]
    exact .inl ⟨_, _, rfl, rfl, k _ _ _ Same.rfl' oin (.int _) hg⟩
  · rw [rx.str, ry.str]
    exact .inr (.inl ⟨_, _, rfl, rfl, big_line hg.1, k _ _ _ Same.rfl' oin (.str _) hg.2⟩)
  · rename_i xs ys
    obtain ⟨a, vs, rfl, ea, ra⟩ := rx.tup
    obtain ⟨b, ws, rfl, eb, rb⟩ := ry.tup
    rw [← hK] at ea eb
    refine .inr (.inr (.inl ⟨a, b, vs, ws, rfl, rfl, ea, eb, by rw [ra.length, rb.length]; exact big_line hg.1, fun e => ?_, fun n e => ?_, fun n1 n2 p hp => ?_⟩))
    · subst e
      cases ra
      have : RS S.G Z H (.ref b) (.tup ys) := by
        rcases ry with r | ⟨_, _, _, _, e, _⟩ | ⟨_, _, _, _, _, e, _⟩
        · exact r
        · cases e
        · cases e
      exact k _ _ _ Same.rfl' oin this hg.2
    · subst e
      cases rb
      have : RS S.G Z H (.ref a) (.tup xs) := by
        rcases rx with r | ⟨_, _, _, _, e, _⟩ | ⟨_, _, _, _, _, e, _⟩
        · exact r
        · cases e
        · cases e
      have e2 : xs ++ [] = xs := List.append_nil xs
      rw [e2] at hg
      exact k _ _ _ Same.rfl' oin this hg.2
    · exact k _ _ _ (same_upd hp) oin (new_tup oin hp (ra.append rb)) hg.2
  · obtain ⟨a, vs, rfl, ea, ra⟩ := rx.lst
    obtain ⟨b, ws, rfl, eb, rb⟩ := ry.lst
    exact .inr (.inr (.inr ⟨a, b, vs, ws, rfl, rfl, ea, eb, by rw [ra.length, rb.length]; exact big_line hg.1, fun p hp => k _ _ _ (same_upd hp) oin (new_lst oin hp (ra.append rb)) hg.2⟩))
  · exact hg.elim
def gSub : G2 := fun x y Q => match x, y with
  | .int i, .int j => Q (.int (i - j))
  | _, _ => False
theorem od_sub : OpD S X (binaryOp .Sub) gSub := by
  refine ⟨_, op_sub, fun Z H x y dx dy Qd Q' rx ry hg k oin => ?_⟩
  unfold gSub at hg
  split at hg
  · rw [rx.int, ry.int]
    exact ⟨_, _, rfl, rfl, k _ _ _ Same.rfl' oin (.int _) hg⟩
  · exact hg.elim
def gMul : G2 := fun x y Q => match x, y with
  | .int i, .int j => CMul i j ∧ Q (.int (i * j))
  | .lst xs, .int k => k < 1000000 ∧ xs.length * k.toNat ≤ big ∧ -1000000 < k ∧ Q (.lst (List.replicate k.toNat xs).flatten)
  | .tup xs, .int k => xs ≠ [] ∧ 2 ≤ k ∧ k ≤ 1000 ∧ xs.length ≤ 1000 ∧ Q (.tup (List.replicate k.toNat xs).flatten)
  | _, _ => False
theorem od_mul (hK : X.K = S.G.K) : OpD S X (binaryOp .Mult) gMul := by
  refine ⟨_, op_mul.or (op_rep.or op_repT), fun Z H x y dx dy Qd Q' rx ry hg k oin => ?_⟩
  unfold gMul at hg
  split at hg
  · rw [rx.int, ry.int]
    exact .inl ⟨_, _, rfl, rfl, hg.1, k _ _ _ Same.rfl' oin (.int _) hg.2⟩
  · obtain ⟨a, vs, rfl, ea, ra⟩ := rx.lst
    rw [ry.int]
    exact .inr (.inl ⟨a, _, vs, rfl, rfl, ea, by omega, by omega, by rw [ra.length]; exact big_line hg.2.1, fun p hp => k _ _ _ (same_upd hp) oin (new_lst oin hp (ra.rep _)) hg.2.2.2⟩)
  · obtain ⟨a, vs, rfl, ea, ra⟩ := rx.tup
    rw [ry.int]
    rw [← hK] at ea
    refine .inr (.inr ⟨a, _, vs, rfl, rfl, ea, fun e => ?_, hg.2.1, hg.2.2.1, by rw [ra.length]; exact hg.2.2.2.1, fun p hp => k _ _ _ (same_upd hp) oin (new_tup oin hp (ra.rep _)) hg.2.2.2.2⟩)
    subst e
    cases ra
    exact hg.1 rfl
  · exact hg.elim
/-- the divisor is above nought -/
def gMod : G2 := fun x y Q => match x, y with
  | .int i, .int j => 0 < j ∧ Q (.int (i % j))
  | _, _ => False
theorem od_mod : OpD S X (binaryOp .Mod) gMod := by
  refine ⟨_, op_mod, fun Z H x y dx dy Qd Q' rx ry hg k oin => ?_⟩
  unfold gMod at hg
  split at hg
  · rw [rx.int, ry.int]
    exact ⟨_, _, rfl, rfl, hg.1, k _ _ _ Same.rfl' oin (.int _) hg.2⟩
  · exact hg.elim
/-- the divisor is above nought, below 2 ^ 30 -/
def gDiv : G2 := fun x y Q => match x, y with
  | .int i, .int j => 0 < j ∧ j < 1073741824 ∧ Q (.int (i / j))
  | _, _ => False
theorem od_div : OpD S X (binaryOp .FloorDiv) gDiv := by
  refine ⟨_, op_fdiv, fun Z H x y dx dy Qd Q' rx ry hg k oin => ?_⟩
  unfold gDiv at hg
  split at hg
  · rw [rx.int, ry.int]
    exact ⟨_, _, rfl, rfl, ⟨hg.1, hg.2.1⟩, k _ _ _ Same.rfl' oin (.int _) hg.2.2⟩
  · exact hg.elim
def gPow : G2 := fun x y Q => match x, y with
  | .int i, .int j => CPow i j ∧ Q (.int (i ^ j.toNat))
  | _, _ => False
theorem od_pow : OpD S X (binaryOp .Pow) gPow := by
  refine ⟨_, op_pow, fun Z H x y dx dy Qd Q' rx ry hg k oin => ?_⟩
  unfold gPow at hg
  split at hg
  · rw [rx.int, ry.int]
    exact ⟨_, _, rfl, rfl, hg.1, k _ _ _ Same.rfl' oin (.int _) hg.2⟩
  · exact hg.elim
/-! ### order -/
def gCmp (p : Int → Int → Bool) : G2 := fun x y Q => match x, y with
  | .int i, .int j => Q (.bl (p i j))
  | _, _ => False
theorem od_int {f : Value → Value → Sem Value} {p : Int → Int → Bool} (o : OpR X f (rI0 fun i j => .bl (p i j))) : OpD S X f (gCmp p) := by
  refine ⟨_, o, fun Z H x y dx dy Qd Q' rx ry hg k oin => ?_⟩
  unfold gCmp at hg
  split at hg
  · rw [rx.int, ry.int]
    exact ⟨_, _, rfl, rfl, k _ _ _ Same.rfl' oin (.bl _) hg⟩
  · exact hg.elim
def gLt : G2 := gCmp fun i j => decide (i < j)
def gLe : G2 := gCmp fun i j => decide (i ≤ j)
def gGt : G2 := gCmp fun i j => decide (j < i)
def gGe : G2 := gCmp fun i j => decide (j ≤ i)
theorem od_lt : OpD S X (compareOp .Lt) gLt := od_int op_lt
theorem od_le : OpD S X (compareOp .LtE) gLe := od_int op_le
theorem od_gt : OpD S X (compareOp .Gt) gGt := od_int op_gt
theorem od_ge : OpD S X (compareOp .GtE) gGe := od_int op_ge
end

/-! ### equal data -/
mutual
def pd : D → PyData
  | .non => .none
  | .bl b => .bool b
  | .int i => .int i
  | .str s => .str s
  | .tup xs => .tuple (pdL xs)
  | .lst xs => .list (pdL xs)
  | .dct _ => .none
  | .obj _ _ => .none
  | .frz _ => .none
  | .hand => .none
def pdL : List D → List PyData
  | [] => []
  | x :: xs => pd x :: pdL xs
end
mutual
/-- data that may be compared: at most n deep, no dicts, no objects -/
def okD : D → Nat → Bool
  | .non, _ => true
  | .bl _, _ => true
  | .int _, _ => true
  | .str s, _ => PyData.canLay0 (.str s)
  | .tup xs, n => match n with
    | 0 => false
    | n + 1 => okL xs n
  | .lst xs, n => match n with
    | 0 => false
    | n + 1 => okL xs n
  | .dct _, _ => false
  | .obj _ _, _ => false
  | .frz _, _ => false
  | .hand, _ => false
def okL : List D → Nat → Bool
  | [], _ => true
  | x :: xs, n => okD x n && okL xs n
end
mutual
theorem okD_pd : ∀ (d : D) (n : Nat), okD d n = true → (pd d).canLay0 = true ∧ (pd d).depth ≤ n
  | .non, _, _ => ⟨rfl, Nat.zero_le _⟩
  | .bl _, _, _ => ⟨rfl, Nat.zero_le _⟩
  | .int _, _, _ => ⟨rfl, Nat.zero_le _⟩
  | .str s, n, h => ⟨by rw [okD] at h; rw [pd]; exact h, by rw [pd, PyData.depth]; exact Nat.zero_le _⟩
  | .tup xs, 0, h => by rw [okD] at h; cases h
  | .tup xs, n + 1, h => by
    rw [okD] at h
    have := okL_pd xs n h
    rw [pd, PyData.canLay0, PyData.depth]
    exact ⟨this.1, Nat.succ_le_succ this.2⟩
  | .lst xs, 0, h => by rw [okD] at h; cases h
  | .lst xs, n + 1, h => by
    rw [okD] at h
    have := okL_pd xs n h
    rw [pd, PyData.canLay0, PyData.depth]
    exact ⟨this.1, Nat.succ_le_succ this.2⟩
  | .dct _, _, h => by rw [okD] at h; cases h
  | .obj _ _, _, h => by rw [okD] at h; cases h
  | .frz _, _, h => by rw [okD] at h; cases h
  | .hand, _, h => by rw [okD] at h; cases h
theorem okL_pd : ∀ (ds : List D) (n : Nat), okL ds n = true → PyData.canLayAll0 (pdL ds) = true ∧ PyData.depthAll (pdL ds) ≤ n
  | [], _, _ => ⟨by rw [pdL, PyData.canLayAll0], by rw [pdL, PyData.depthAll]; exact Nat.zero_le _⟩
  | x :: xs, n, h => by
    rw [okL, Bool.and_eq_true] at h
    obtain ⟨h1, h2⟩ := okD_pd x n h.1
    obtain ⟨h3, h4⟩ := okL_pd xs n h.2
    rw [pdL, PyData.canLayAll0, PyData.depthAll]
    exact ⟨by rw [h1, h3]; rfl, Nat.max_le.mpr ⟨h2, h4⟩⟩
end
theorem okD_shaped {d : D} (h : okD d 60 = true) : SeqAt.shaped (pd d) = true := by
  obtain ⟨h1, h2⟩ := okD_pd d 60 h
  unfold SeqAt.shaped
  rw [h1, decide_eq_true (by omega)]; rfl
mutual
theorem Rep.dp {G : Pg} {H : Hp} {hh : Option Addr} {O : List Addr} : ∀ {v : V} {d : D} (n : Nat), Rep G (vis O H) hh v d → okD d n = true → Dp G.K H v (pd d)
  | _, _, _, .non, _ => by rw [pd]; exact .non
  | _, _, _, .bl b, _ => by rw [pd]; exact .bl b
  | _, _, _, .int i, _ => by rw [pd]; exact .int i
  | _, _, _, .str s, _ => by rw [pd]; exact .str s
  | _, _, 0, .tup e r, h => by rw [okD] at h; cases h
  | _, _, n + 1, .tup e r, h => by
    rw [okD] at h
    rw [pd]
    exact .tup (sqT_vis e) (RepL.dp n r h)
  | _, _, 0, .lst e r, h => by rw [okD] at h; cases h
  | _, _, n + 1, .lst e r, h => by
    rw [okD] at h
    rw [pd]
    exact .lst (SqL.of (vis_some e).2) (RepL.dp n r h)
  | _, _, _, .dK _ _ _ _, h => by rw [okD] at h; cases h
  | _, _, _, .dT _ _ _ _, h => by rw [okD] at h; cases h
  | _, _, _, .obj _ _ _ _ _, h => by rw [okD] at h; cases h
  | _, _, _, .frz _ _, h => by rw [okD] at h; cases h
  | _, _, _, .hand _, h => by rw [okD] at h; cases h
theorem RepL.dp {G : Pg} {H : Hp} {hh : Option Addr} {O : List Addr} : ∀ {vs : List V} {ds : List D} (n : Nat), RepL G (vis O H) hh vs ds → okL ds n = true → DpAll G.K H vs (pdL ds)
  | _, _, _, .nil, _ => by rw [pdL]; exact .nil
  | _, _, n, .cons r rs, h => by
    rw [okL, Bool.and_eq_true] at h
    rw [pdL]
    exact .cons (Rep.dp n r h.1) (RepL.dp n rs h.2)
end
theorem RB.dp {G : Pg} {Z : Zs} {H : Hp} {v : V} {d : D} (h : RB G Z H v d) (o : okD d 60 = true) : Dp G.K H v (pd d) := by
  rcases h with h | ⟨a, vs, xs, rfl, rfl, n, e, r⟩ | ⟨a, vs, ds, kvs, rfl, rfl, _⟩
  · exact Rep.dp _ h o
  · rw [okD] at o
    rw [pd]
    exact .lst (SqL.of e) (RepL.dp _ r o)
  · rw [okD] at o; cases o
def eqD (x y : D) : Bool := (pd x).eqv (pd y)
def eqL (x y : List D) : Bool := PyData.eqvAll (pdL x) (pdL y)
section
variable {S : Ent} {X : Cx}
def gEq : G2 := fun x y Q => okD x 60 = true ∧ okD y 60 = true ∧ Q (.bl (eqD x y))
def gNe : G2 := fun x y Q => okD x 60 = true ∧ okD y 60 = true ∧ Q (.bl (!eqD x y))
theorem od_eq (hK : X.K = S.G.K) (hu : X.A.units + 64 < cLine) : OpD S X (compareOp .Eq) gEq := by
  refine ⟨_, op_eqD hu, fun Z H x y dx dy Qd Q' rx ry hg k oin => ?_⟩
  obtain ⟨h1, h2, h3⟩ := hg
  refine ⟨pd dx, pd dy, ?_, ?_, okD_shaped h1, okD_shaped h2, k _ _ _ Same.rfl' oin (.bl _) h3⟩
  · rw [hK]; exact rx.dp h1
  · rw [hK]; exact ry.dp h2
theorem od_ne (hK : X.K = S.G.K) (hu : X.A.units + 64 < cLine) : OpD S X (compareOp .NotEq) gNe := by
  refine ⟨_, op_neD hu, fun Z H x y dx dy Qd Q' rx ry hg k oin => ?_⟩
  obtain ⟨h1, h2, h3⟩ := hg
  refine ⟨pd dx, pd dy, ?_, ?_, okD_shaped h1, okD_shaped h2, k _ _ _ Same.rfl' oin (.bl _) h3⟩
  · rw [hK]; exact rx.dp h1
  · rw [hK]; exact ry.dp h2
/-! ### is -/
def isNon : D → Bool
  | .non => true
  | _ => false
/-- is None, is True, is False (the right one written) -/
def gIs : G2 := fun x y Q => match y with
  | .non => Q (.bl (isNon x))
  | .bl b => (match x with | .bl a => Q (.bl (decide (a = b))) | _ => False)
  | _ => False
def gIsN : G2 := fun x y Q => match y with
  | .non => Q (.bl (!isNon x))
  | .bl b => (match x with | .bl a => Q (.bl (!decide (a = b))) | _ => False)
  | _ => False
theorem is_non {G : Pg} {Z : Zs} {H : Hp} {x : V} {d : D} (r : RB G Z H x d) : decide (x = .non) = isNon d := by
  rcases r with r | ⟨a, vs, xs, rfl, rfl, _⟩ | ⟨a, vs, ds, kvs, rfl, rfl, _⟩
  · cases r <;> rfl
  · rfl
  · rfl
theorem od_is : OpD S X (compareOp .Is) gIs := by
  refine ⟨_, op_isN.or op_is_bl, fun Z H x y dx dy Qd Q' rx ry hg k oin => ?_⟩
  unfold gIs at hg
  split at hg
  · rw [ry.non]
    refine .inl ⟨rfl, ?_⟩
    rw [is_non rx]
    exact k _ _ _ Same.rfl' oin (.bl _) hg
  · split at hg
    · rw [rx.bl, ry.bl]
      exact .inr ⟨_, _, rfl, rfl, k _ _ _ Same.rfl' oin (.bl _) hg⟩
    · exact hg.elim
  · exact hg.elim
theorem od_isN : OpD S X (compareOp .IsNot) gIsN := by
  refine ⟨_, op_notN.or op_isnot_bl, fun Z H x y dx dy Qd Q' rx ry hg k oin => ?_⟩
  unfold gIsN at hg
  split at hg
  · rw [ry.non]
    refine .inl ⟨rfl, ?_⟩
    rw [is_non rx]
    exact k _ _ _ Same.rfl' oin (.bl _) hg
  · split at hg
    · rw [rx.bl, ry.bl]
      exact .inr ⟨_, _, rfl, rfl, k _ _ _ Same.rfl' oin (.bl _) hg⟩
    · exact hg.elim
  · exact hg.elim
/-! ### in -/
def inL (x : D) (ys : List D) : Bool := ys.any fun z => eqD z x
def gIn : G2 := fun x y Q => match y with
  | .lst ys => okD x 60 = true ∧ okD (.lst ys) 60 = true ∧ Q (.bl (inL x ys))
  | _ => False
def gNotIn : G2 := fun x y Q => match y with
  | .lst ys => okD x 60 = true ∧ okD (.lst ys) 60 = true ∧ Q (.bl (!inL x ys))
  | _ => False
theorem pdL_any (x : D) : ∀ ys : List D, ((pdL ys).any fun z => PyData.eqv z (pd x)) = inL x ys
  | [] => by rw [pdL]; rfl
  | y :: ys => by
    rw [pdL, List.any_cons, pdL_any x ys]
    rfl
theorem od_in (hK : X.K = S.G.K) (hu : X.A.units + 65 < cLine) : OpD S X (compareOp .In) gIn := by
  refine ⟨_, op_inD hu, fun Z H x y dx dy Qd Q' rx ry hg k oin => ?_⟩
  unfold gIn at hg
  split at hg
  · rename_i ys
    obtain ⟨h1, h2, h3⟩ := hg
    have e : pd (.lst ys) = .list (pdL ys) := by rw [pd]
    refine ⟨pd dx, pdL ys, ?_, ?_, okD_shaped h1, ?_, ?_⟩
    · rw [hK]; exact rx.dp h1
    · rw [hK, ← e]; exact ry.dp h2
    · rw [← e]; exact okD_shaped h2
    · rw [pdL_any]; exact k _ _ _ Same.rfl' oin (.bl _) h3
  · exact hg.elim
theorem od_notIn (hK : X.K = S.G.K) (hu : X.A.units + 65 < cLine) : OpD S X (compareOp .NotIn) gNotIn := by
  refine ⟨_, op_notInD hu, fun Z H x y dx dy Qd Q' rx ry hg k oin => ?_⟩
  unfold gNotIn at hg
  split at hg
  · rename_i ys
    obtain ⟨h1, h2, h3⟩ := hg
    have e : pd (.lst ys) = .list (pdL ys) := by rw [pd]
    refine ⟨pd dx, pdL ys, ?_, ?_, okD_shaped h1, ?_, ?_⟩
    · rw [hK]; exact rx.dp h1
    · rw [hK, ← e]; exact ry.dp h2
    · rw [← e]; exact okD_shaped h2
    · rw [pdL_any]; exact k _ _ _ Same.rfl' oin (.bl _) h3
  · exact hg.elim
end
end DV

set_option Elab.async false
set_option linter.all false
set_option maxRecDepth 100000
/-! DV4: subscripts, built-in functions, calls of the program's own defs. -/
namespace DV
open PySem PySem.Spec PyProof.Rows L2

section
variable {S : Ent} {X : Cx} {a b c e : Expr} {Ta Tb Tc : Tm} {pos : Pos}
/-! ### o[i] -/
def gIx : G2 := fun x y Q => match x, y with
  | .tup xs, .int i => ∃ d, atI xs i = some d ∧ Q d
  | .lst xs, .int i => ∃ d, atI xs i = some d ∧ Q d
  | .str z, .int i => z.length ≤ big ∧ ∃ c, atI z.cps.toList i = some c ∧ Q (.str ⟨#[c]⟩)
  | _, _ => False
theorem RepL.atI {G : Pg} {H : Hp} {hh : Option Addr} {vs : List V} {ds : List D} {i : Int} {d : D} (r : RepL G H hh vs ds) (h : L2.atI ds i = some d) : ∃ v, L2.atI vs i = some v ∧ Rep G H hh v d := by
  unfold L2.atI at h ⊢
  rw [r.length]
  cases q : ixN ds.length i with
  | none => rw [q] at h; cases h
  | some j =>
    rw [q] at h
    exact r.get h
theorem lift_ix (hK : X.K = S.G.K) : Lift2 S.G (rIx X.K) gIx := by
  intro Z H x y dx dy Qd Q' rx ry hg k oin
  unfold gIx at hg
  split at hg
  · obtain ⟨d, h1, h2⟩ := hg
    obtain ⟨p, vs, rfl, ep, rp⟩ := rx.tup
    rw [ry.int]
    rw [← hK] at ep
    obtain ⟨v, hv, rv⟩ := rp.atI h1
    exact .inr (.inl ⟨p, vs, _, v, rfl, rfl, ep, hv, k _ _ _ Same.rfl' oin rv h2⟩)
  · obtain ⟨d, h1, h2⟩ := hg
    obtain ⟨p, vs, rfl, ep, rp⟩ := rx.lst
    rw [ry.int]
    obtain ⟨v, hv, rv⟩ := rp.atI h1
    exact .inl ⟨p, vs, _, v, rfl, rfl, SqL.of ep, hv, k _ _ _ Same.rfl' oin rv h2⟩
  · obtain ⟨h0, c, h1, h2⟩ := hg
    rw [rx.str, ry.int]
    exact .inr (.inr ⟨_, _, c, rfl, rfl, big_line h0, h1, k _ _ _ Same.rfl' oin (.str _) h2⟩)
  · exact hg.elim
theorem dx_ix (hK : X.K = S.G.K) (ha : DB S X a Ta) (hb : DB S X b Tb) (hs : PlainIx b := by exact fun _ _ => rfl) : DE S X (.Subscript a b pos) (wOp gIx Ta Tb) := ⟨fun W tk => by
  obtain ⟨ta, pa, ra⟩ := ha.run W tk
  obtain ⟨tb, pb, rb⟩ := hb.run W tk
  exact ⟨_, pe_ix ix_seq pa pb hs, fun Z env σ H Q E Q' R hT k x => run2 (lift_ix hK) ra rb R hT k x⟩⟩
/-! ### o[i:j] -/
abbrev Tp := Env → (Option Int → Env → Prop) → Ex → Prop
structure DP (S : Ent) (X : Cx) (e : Option Expr) (T : Tp) : Prop where
  run : ∀ W, Takes X W → ∃ t, PO X e t ∧ ∀ Z env σ H Q E (Q' : Option Int → Hp → Prop), Rel S Z env σ H → T env Q E →
    (∀ Z' env' b H', Rel S Z' env' σ H' → Tr Z H Z' H' → Q b env' → Q' b H') → ExOk S Z H σ E W → t σ H Q'
def wNoP : Tp := fun env Q _ => Q none env
def wPart (T : Tm) : Tp := fun env Q E => T env (fun d env1 => match d with | .int i => Q (some i) env1 | _ => False) E
theorem dp_none : DP S X none wNoP := ⟨fun W tk => ⟨_, po_none, fun Z env σ H Q E Q' R hT k _ => k Z env none H R .refl hT⟩⟩
theorem dp_some (h : DB S X e Ta) : DP S X (some e) (wPart Ta) := ⟨fun W tk => by
  obtain ⟨t, p, q⟩ := h.run W tk
  refine ⟨_, po_some p, fun Z env σ H Q E Q' R hT k x => ?_⟩
  refine q Z env σ H _ E _ R hT (fun Z1 env1 v d H1 R1 t1 r1 h1 => ?_) x
  split at h1
  · exact ⟨_, r1.int, k Z1 env1 _ H1 R1 t1 h1⟩
  · exact h1.elim⟩
def cutD (xs : List D) (lo hi : Option Int) : List D := (xs.drop (HT.sIx xs.length 0 lo)).take (HT.sIx xs.length xs.length hi - HT.sIx xs.length 0 lo)
theorem RepL.cut {G : Pg} {H : Hp} {hh : Option Addr} {vs : List V} {ds : List D} (r : RepL G H hh vs ds) (lo hi : Option Int) : RepL G H hh (cutV vs lo hi) (cutD ds lo hi) := by
  unfold cutV cutD
  rw [r.length]
  exact (r.drop _).take _
def gSlc (x : D) (lo hi : Option Int) (Q : D → Prop) : Prop := match x with
  | .tup xs => Q (.tup (cutD xs lo hi))
  | .lst xs => Q (.lst (cutD xs lo hi))
  | .frz xs => Q (.lst (cutD xs lo hi))
  | _ => False
def wSlc (T : Tm) (Tl Th : Tp) : Tm := fun env Q E => T env (fun x env1 => Tl env1 (fun lo env2 => Th env2 (fun hi env3 => gSlc x lo hi fun d => Q d env3) E) E) E
theorem cutV_whole {α : Type} (xs : List V) (lo hi : Option Int) (h : HT.sIx xs.length 0 lo = 0 ∧ HT.sIx xs.length xs.length hi = xs.length) : cutV xs lo hi = xs := by
  unfold cutV
  rw [h.1, h.2]
  simp
theorem dx_slc {lo hi : Option Expr} {Tl Th : Tp} {p2 : Pos} (hK : X.K = S.G.K) (ha : DB S X a Ta) (hl : DP S X lo Tl) (hh : DP S X hi Th) : DE S X (.Subscript a (.Slice lo hi none p2) pos) (wSlc Ta Tl Th) := ⟨fun W tk => by
  obtain ⟨ta, pa, ra⟩ := ha.run W tk
  obtain ⟨tl, pl, rl⟩ := hl.run W tk
  obtain ⟨th, ph, rh⟩ := hh.run W tk
  refine ⟨_, pe_slice (sl_tupA.or sl_list) pa pl ph, fun Z env σ H Q E Q' R hT k x => ?_⟩
  refine ra Z env σ H _ E _ R hT (fun Z1 env1 v d H1 R1 t1 r1 h1 => ?_) x
  refine rl Z1 env1 σ H1 _ E _ R1 h1 (fun Z2 env2 lo H2 R2 t2 h2 => ?_) (x.on (R.vle t1))
  have t12 := Tr.trans R1 t1 t2
  refine rh Z2 env2 σ H2 _ E _ R2 h2 (fun Z3 env3 hi H3 R3 t3 h3 => ?_) (x.on (R.vle t12))
  have t13 := Tr.trans R2 t12 t3
  have r3 := (r1.on R1 t2).on R2 t3
  unfold gSlc at h3
  split at h3
  · rename_i xs
    obtain ⟨p, vs, rfl, ep, rp⟩ := r3.tup
    have ep' := ep
    rw [← hK] at ep
    refine .inl ⟨p, vs, rfl, ep, fun hw => ?_, fun _ q hq => ?_⟩
    · refine k Z3 env3 _ _ H3 R3 t13 ?_ h3
      have r0 : RS S.G Z3 H3 (.ref p) (.tup xs) := by
        rcases r3 with r | ⟨_, _, _, _, e, _⟩ | ⟨_, _, _, _, _, e, _⟩
        · exact r
        · cases e
        · cases e
      have e2 : cutD xs lo hi = xs := by
        unfold cutD
        rw [← rp.length, hw.1, hw.2, rp.length]
        simp
      rw [e2]
      exact r0
    · exact k Z3 env3 _ _ _ (R3.grow (same_upd hq)) (Tr.trans R3 t13 (.alloc (same_upd hq))) (new_tup R3.oin hq (rp.cut lo hi)) h3
  · obtain ⟨p, vs, rfl, ep, rp⟩ := r3.lst
    exact .inr ⟨p, vs, rfl, SqL.of ep, fun q hq => k Z3 env3 _ _ _ (R3.grow (same_upd hq)) (Tr.trans R3 t13 (.alloc (same_upd hq))) (new_lst R3.oin hq (rp.cut lo hi)) h3⟩
  · rcases r3 with r | ⟨_, _, _, _, e, _⟩ | ⟨_, _, _, _, _, e, _⟩
    · cases r with
      | frz ep rp =>
        refine .inr ⟨_, _, rfl, ?_, fun q hq => k Z3 env3 _ _ _ (R3.grow (same_upd hq)) (Tr.trans R3 t13 (.alloc (same_upd hq))) (new_lst R3.oin hq (rp.cut lo hi)) h3⟩
        rw [hK]
        exact Same.seq (fun b o e => (vis_some e).2) ep
    · cases e
    · cases e
  · exact h3.elim⟩
/-! ### built-in functions -/
abbrev GL := List D → (D → Prop) → Prop
def LiftC (G : Pg) (r : List V → Hp → VK → Prop) (g : GL) : Prop :=
  ∀ Z H vs ds (Qd : D → Prop) Q', vs.length = ds.length → (∀ (i : Nat) v d, vs[i]? = some v → ds[i]? = some d → RB G Z H v d) → g ds Qd →
    (∀ v d H', Same H H' → RS G Z H' v d → Qd d → Q' v H') → (∀ a ∈ Z.O, H a ≠ none) → r vs H Q'
def CallD (S : Ent) (X : Cx) (f : Value) (g : GL) : Prop := ∃ r, CallR X f r ∧ LiftC S.G r g
def wCB (g : GL) (T : TmL) : Tm := fun env Q E => T env (fun ds env1 => g ds fun d => Q d env1) E
variable {es : List Expr} {T : TmL} {x : Str} {p : Pos} {bid : String} {g : GL}
theorem runC {r : List V → Hp → VK → Prop} {ta : TA} (hl : LiftC S.G r g) {W : WX}
    (ra : ∀ Z env σ H Q E (Q' : List V → Hp → Prop), Rel S Z env σ H → T env Q E →
      (∀ Z' env' vs ds H', Rel S Z' env' σ H' → Tr Z H Z' H' → vs.length = ds.length → (∀ (i : Nat) v d, vs[i]? = some v → ds[i]? = some d → RB S.G Z' H' v d) → Q ds env' → Q' vs H') → ExOk S Z H σ E W → ta σ H Q')
    {Z : Zs} {env : Env} {σ : L2.St} {H : Hp} {Q : D → Env → Prop} {E : Ex} {Q' : VK} (R : Rel S Z env σ H) (hT : wCB g T env Q E)
    (k : ∀ Z' env' v d H', Rel S Z' env' σ H' → Tr Z H Z' H' → RS S.G Z' H' v d → Q d env' → Q' v H') (x : ExOk S Z H σ E W) : tCB r ta σ H Q' := by
  refine ra Z env σ H _ E _ R hT (fun Z1 env1 vs ds H1 R1 t1 hl1 r1 h1 => ?_) x
  exact hl Z1 H1 vs ds _ _ hl1 r1 h1 (fun v d H2 sm r2 q => k Z1 env1 v d H2 (R1.grow sm) (Tr.trans R1 t1 (.alloc sm)) r2 q) R1.oin
theorem dx_cb (hc : CallD S X (.builtin bid) g) (hm : X.mg x = none) (hv : bootBuiltins x = some (.builtin bid)) (ha : DA S RB X (e :: es) T) (hg : Gl X x := by rfl) (hn : x ≠ "__name__" := by decide) (hdb : (x == ("__debug__" : Str)) = false := by decide)
    (he : starEach (e :: es) X.env = (false, eval e X.env) :: starEach es X.env := by rfl) (hpl : (backTo pos (starEach es X.env)).any (·.1) = false := by rfl) : DE S X (.Call (.Name x p) (e :: es) [] pos) (wCB g T) := ⟨fun W tk => by
  obtain ⟨r, c, hl⟩ := hc
  obtain ⟨ta, pa, ra⟩ := ha.run W tk
  exact ⟨_, pe_callB c hg hm hv pa hn hdb he hpl, fun Z env σ H Q E Q' R hT k x => runC hl ra R hT k x⟩⟩
theorem dx_cty (hc : CallD S X (.type bid) g) (hm : X.mg x = none) (hv : bootBuiltins x = some (.type bid)) (ha : DA S RB X (e :: es) T) (hg : Gl X x := by rfl) (hn : x ≠ "__name__" := by decide) (hdb : (x == ("__debug__" : Str)) = false := by decide)
    (he : starEach (e :: es) X.env = (false, eval e X.env) :: starEach es X.env := by rfl) (hpl : (backTo pos (starEach es X.env)).any (·.1) = false := by rfl) : DE S X (.Call (.Name x p) (e :: es) [] pos) (wCB g T) := ⟨fun W tk => by
  obtain ⟨r, c, hl⟩ := hc
  obtain ⟨ta, pa, ra⟩ := ha.run W tk
  exact ⟨_, pe_callTy c hg hm hv pa hn hdb he hpl, fun Z env σ H Q E Q' R hT k x => runC hl ra R hT k x⟩⟩
theorem one_of {G : Pg} {Z : Zs} {H : Hp} {vs : List V} {d : D} (hl : vs.length = [d].length) (h : ∀ (i : Nat) v d', vs[i]? = some v → [d][i]? = some d' → RB G Z H v d') : ∃ v, vs = [v] ∧ RB G Z H v d := by
  match vs, hl with
  | [v], _ => exact ⟨v, rfl, h 0 v d rfl rfl⟩
theorem two_of {G : Pg} {Z : Zs} {H : Hp} {vs : List V} {d d2 : D} (hl : vs.length = [d, d2].length) (h : ∀ (i : Nat) v d', vs[i]? = some v → [d, d2][i]? = some d' → RB G Z H v d') : ∃ v v2, vs = [v, v2] ∧ RB G Z H v d ∧ RB G Z H v2 d2 := by
  match vs, hl with
  | [v, v2], _ => exact ⟨v, v2, rfl, h 0 v d rfl rfl, h 1 v2 d2 rfl rfl⟩
def gLen : GL := fun ds Q => match ds with
  | [.tup xs] => Q (.int xs.length)
  | [.lst xs] => Q (.int xs.length)
  | [.str z] => z.length ≤ big ∧ Q (.int z.length)
  | _ => False
theorem cd_len (hK : X.K = S.G.K) : CallD S X (.builtin "len") gLen := by
  refine ⟨_, call_len, fun Z H vs ds Qd Q' hl hr hg k oin => ?_⟩
  unfold gLen at hg
  split at hg
  · obtain ⟨v, rfl, r⟩ := one_of hl hr
    obtain ⟨p, ws, rfl, ep, rp⟩ := r.tup
    rw [← hK] at ep
    refine ⟨_, ws.length, rfl, .inr ⟨ws, ep, rfl⟩, ?_⟩
    rw [rp.length]
    exact k _ _ _ Same.rfl' (.int _) hg
  · obtain ⟨v, rfl, r⟩ := one_of hl hr
    obtain ⟨p, ws, rfl, ep, rp⟩ := r.lst
    refine ⟨_, ws.length, rfl, .inl ⟨ws, SqL.of ep, rfl⟩, ?_⟩
    rw [rp.length]
    exact k _ _ _ Same.rfl' (.int _) hg
  · obtain ⟨v, rfl, r⟩ := one_of hl hr
    rw [r.str]
    exact ⟨_, _, rfl, ⟨big_line hg.1, rfl⟩, k _ _ _ Same.rfl' (.int _) hg.2⟩
  · exact hg.elim
def gAbs : GL := fun ds Q => match ds with
  | [.int i] => Q (.int (if i < 0 then -i else i))
  | _ => False
theorem cd_abs : CallD S X (.builtin "abs") gAbs := by
  refine ⟨_, call_abs, fun Z H vs ds Qd Q' hl hr hg k oin => ?_⟩
  unfold gAbs at hg
  split at hg
  · obtain ⟨v, rfl, r⟩ := one_of hl hr
    rw [r.int]
    exact ⟨_, rfl, k _ _ _ Same.rfl' (.int _) hg⟩
  · exact hg.elim
def gInt : GL := fun ds Q => match ds with
  | [.int i] => Q (.int i)
  | [.bl b] => Q (.int (if b then 1 else 0))
  | _ => False
theorem cd_int : CallD S X (.type "int") gInt := by
  refine ⟨_, call_int1, fun Z H vs ds Qd Q' hl hr hg k oin => ?_⟩
  unfold gInt at hg
  split at hg
  · obtain ⟨v, rfl, r⟩ := one_of hl hr
    rw [r.int]
    exact .inl ⟨_, rfl, k _ _ _ Same.rfl' (.int _) hg⟩
  · obtain ⟨v, rfl, r⟩ := one_of hl hr
    rw [r.bl]
    exact .inr ⟨_, rfl, k _ _ _ Same.rfl' (.int _) hg⟩
  · exact hg.elim
def gMin2 : GL := fun ds Q => match ds with
  | [.int i, .int j] => Q (.int (if j < i then j else i))
  | _ => False
theorem cd_min2 (hc : X.calm = true) : CallD S X (.builtin "min") gMin2 := by
  refine ⟨_, call_min2 hc, fun Z H vs ds Qd Q' hl hr hg k oin => ?_⟩
  unfold gMin2 at hg
  split at hg
  · obtain ⟨v, v2, rfl, r, r2⟩ := two_of hl hr
    rw [r.int, r2.int]
    exact ⟨_, _, rfl, k _ _ _ Same.rfl' (.int _) hg⟩
  · exact hg.elim
def gMax2 : GL := fun ds Q => match ds with
  | [.int i, .int j] => Q (.int (if j > i then j else i))
  | _ => False
theorem cd_max2 (hc : X.calm = true) : CallD S X (.builtin "max") gMax2 := by
  refine ⟨_, call_max2 hc, fun Z H vs ds Qd Q' hl hr hg k oin => ?_⟩
  unfold gMax2 at hg
  split at hg
  · obtain ⟨v, v2, rfl, r, r2⟩ := two_of hl hr
    rw [r.int, r2.int]
    exact ⟨_, _, rfl, k _ _ _ Same.rfl' (.int _) hg⟩
  · exact hg.elim
/-- all of a list of flags -/
def toBs : List D → Option (List Bool)
  | [] => some []
  | .bl b :: r => (toBs r).map (b :: ·)
  | _ :: _ => none
theorem toBs_eq : ∀ {xs : List D} {bs : List Bool}, toBs xs = some bs → xs = bs.map D.bl
  | [], bs, h => by cases h; rfl
  | .bl b :: r, bs, h => by
    rw [toBs] at h
    cases q : toBs r with
    | none => rw [q] at h; cases h
    | some cs =>
      rw [q] at h
      cases h
      rw [toBs_eq q]; rfl
  | .non :: _, _, h => by cases h
  | .int _ :: _, _, h => by cases h
  | .str _ :: _, _, h => by cases h
  | .tup _ :: _, _, h => by cases h
  | .lst _ :: _, _, h => by cases h
  | .dct _ :: _, _, h => by cases h
  | .obj _ _ :: _, _, h => by cases h
  | .frz _ :: _, _, h => by cases h
  | .hand :: _, _, h => by cases h
theorem toBs_map : ∀ bs : List Bool, toBs (bs.map D.bl) = some bs
  | [] => rfl
  | b :: r => by rw [List.map_cons, toBs, toBs_map r]; rfl
def gAll : GL := fun ds Q => match ds with
  | [.lst xs] => ∃ bs, toBs xs = some bs ∧ Q (.bl (bs.all id))
  | _ => False
theorem cd_all (hc : X.calm = true) : CallD S X (.builtin "all") gAll := by
  refine ⟨_, cr_all hc, fun Z H vs ds Qd Q' hl hr hg k oin => ?_⟩
  unfold gAll at hg
  split at hg
  · obtain ⟨bs, h1, h2⟩ := hg
    obtain ⟨v, rfl, r⟩ := one_of hl hr
    obtain ⟨p, ws, rfl, ep, rp⟩ := r.lst
    rw [toBs_eq h1] at rp
    rw [rp.bls] at ep
    exact ⟨p, bs, rfl, SqL.of ep, k _ _ _ Same.rfl' (.bl _) h2⟩
  · exact hg.elim
def gAny : GL := fun ds Q => match ds with
  | [.lst xs] => ∃ bs, toBs xs = some bs ∧ Q (.bl (bs.any id))
  | _ => False
theorem cd_any (hc : X.calm = true) : CallD S X (.builtin "any") gAny := by
  refine ⟨_, cr_any hc, fun Z H vs ds Qd Q' hl hr hg k oin => ?_⟩
  unfold gAny at hg
  split at hg
  · obtain ⟨bs, h1, h2⟩ := hg
    obtain ⟨v, rfl, r⟩ := one_of hl hr
    obtain ⟨p, ws, rfl, ep, rp⟩ := r.lst
    rw [toBs_eq h1] at rp
    rw [rp.bls] at ep
    exact ⟨p, bs, rfl, SqL.of ep, k _ _ _ Same.rfl' (.bl _) h2⟩
  · exact hg.elim
def toIs : List D → Option (List Int)
  | [] => some []
  | .int b :: r => (toIs r).map (b :: ·)
  | _ :: _ => none
theorem toIs_eq : ∀ {xs : List D} {bs : List Int}, toIs xs = some bs → xs = bs.map D.int
  | [], bs, h => by cases h; rfl
  | .int b :: r, bs, h => by
    rw [toIs] at h
    cases q : toIs r with
    | none => rw [q] at h; cases h
    | some cs =>
      rw [q] at h
      cases h
      rw [toIs_eq q]; rfl
  | .non :: _, _, h => by cases h
  | .bl _ :: _, _, h => by cases h
  | .str _ :: _, _, h => by cases h
  | .tup _ :: _, _, h => by cases h
  | .lst _ :: _, _, h => by cases h
  | .dct _ :: _, _, h => by cases h
  | .obj _ _ :: _, _, h => by cases h
  | .frz _ :: _, _, h => by cases h
  | .hand :: _, _, h => by cases h
theorem toIs_map : ∀ bs : List Int, toIs (bs.map D.int) = some bs
  | [] => rfl
  | b :: r => by rw [List.map_cons, toIs, toIs_map r]; rfl
def gSum : GL := fun ds Q => match ds with
  | [.lst xs] => ∃ ns, toIs xs = some ns ∧ Q (.int ns.sum)
  | _ => False
theorem cd_sum (hc : X.calm = true) : CallD S X (.builtin "sum") gSum := by
  refine ⟨_, cr_sum hc, fun Z H vs ds Qd Q' hl hr hg k oin => ?_⟩
  unfold gSum at hg
  split at hg
  · obtain ⟨bs, h1, h2⟩ := hg
    obtain ⟨v, rfl, r⟩ := one_of hl hr
    obtain ⟨p, ws, rfl, ep, rp⟩ := r.lst
    rw [toIs_eq h1] at rp
    rw [rp.ints] at ep
    exact ⟨p, bs, rfl, SqL.of ep, k _ _ _ Same.rfl' (.int _) h2⟩
  · exact hg.elim
def gTuple : GL := fun ds Q => match ds with
  | [.lst xs] => Q (.tup xs)
  | [.tup xs] => Q (.tup xs)
  | _ => False
theorem cd_tuple (hK : X.K = S.G.K) : CallD S X (.type "tuple") gTuple := by
  refine ⟨_, call_tuple_of, fun Z H vs ds Qd Q' hl hr hg k oin => ?_⟩
  unfold gTuple at hg
  split at hg
  · obtain ⟨v, rfl, r⟩ := one_of hl hr
    obtain ⟨p, ws, rfl, ep, rp⟩ := r.lst
    exact ⟨p, ws, rfl, .inl ⟨SqL.of ep, fun q hq => k _ _ _ (same_upd hq) (new_tup oin hq rp) hg⟩⟩
  · obtain ⟨v, rfl, r⟩ := one_of hl hr
    obtain ⟨p, ws, rfl, ep, rp⟩ := r.tup
    rw [← hK] at ep
    refine ⟨p, ws, rfl, .inr ⟨ep, k _ _ _ Same.rfl' ?_ hg⟩⟩
    rcases r with r | ⟨_, _, _, _, e, _⟩ | ⟨_, _, _, _, _, e, _⟩
    · exact r
    · cases e
    · cases e
  · exact hg.elim
/-! ### isinstance of built-in classes -/
inductive Ty where
  | int | bool | str | tuple | list | dict
def Ty.nm : Ty → String
  | .int => "int" | .bool => "bool" | .str => "str" | .tuple => "tuple" | .list => "list" | .dict => "dict"
def D.isTy : D → Ty → Bool
  | .int _, .int => true
  | .bl _, .int => true
  | .bl _, .bool => true
  | .str _, .str => true
  | .tup _, .tuple => true
  | .lst _, .list => true
  | .dct _, .dict => true
  | _, _ => false
/-- objects are none of these -/
structure ObjCls (K : PySem.W.Frag) (C : Addr) : Prop where
  cl : Cls K C
  ha : PySem.W.findIn K (.ref C) "__class__" = some (some (.builtin "object.__class__"))
  hn : PySem.W.specialIn K (.builtin "object.__class__") "__get__" = some (some (.builtin "getset_descriptor.__get__"))
  ht : PySem.W.takesIn K (.builtin "object.__class__") = some true
  hm : PySem.W.mroIn K C (.type "object") = some true
  no : ∀ t : Ty, PySem.W.kitOne K (.ref C) (.type t.nm) = some false
def D.isHand : D → Bool
  | .hand => true
  | .frz _ => true
  | _ => false
def wIsT (t : Ty) (T : Tm) : Tm := fun env Q E => T env (fun d env1 => d.isHand = false ∧ Q (.bl (d.isTy t)) env1) E
theorem kit_nm : ∀ t : Ty, kitB "NoneType" t.nm = some false ∧ kitB "bool" t.nm = some (D.isTy (.bl true) t) ∧ kitB "int" t.nm = some (D.isTy (.int 0) t) ∧ kitB "str" t.nm = some (D.isTy (.str ⟨#[]⟩) t) ∧
    kitB "tuple" t.nm = some (D.isTy (.tup []) t) ∧ kitB "list" t.nm = some (D.isTy (.lst []) t) ∧ kitB "dict" t.nm = some (D.isTy (.dct []) t) := by
  intro t
  cases t <;> refine ⟨?_, ?_, ?_, ?_, ?_, ?_, ?_⟩ <;> decide +kernel
theorem kit_of_rep {G : Pg} {Z : Zs} {H : Hp} {v : V} {d : D} (hO : ∀ c C, G.CT c = some C → ObjCls G.K C) (t : Ty) (r : RB G Z H v d) (nh : d.isHand = false) : ∃ u, TyX G.K H v u ∧ PySem.W.kitOne G.K u (.type t.nm) = some (d.isTy t) := by
  obtain ⟨k1, k2, k3, k4, k5, k6, k7⟩ := kit_nm t
  rcases r with r | ⟨a, vs, xs, rfl, rfl, n, e, r⟩ | ⟨a, vs, ds, kvs, rfl, rfl, n, r, ⟨hk, e, _⟩ | ⟨hk, e, _⟩⟩
  · cases r with
    | non => exact ⟨_, .base .non, kit_ty (by rw [k1]; cases t <;> rfl)⟩
    | bl b => exact ⟨_, .base (.bl b), kit_ty (by rw [k2]; cases t <;> rfl)⟩
    | int i => exact ⟨_, .base (.int i), kit_ty (by rw [k3]; cases t <;> rfl)⟩
    | str s => exact ⟨_, .base (.str s), kit_ty (by rw [k4]; cases t <;> rfl)⟩
    | tup e r =>
      have kk : ∀ xs, PySem.W.kitOne G.K (.type "tuple") (.type t.nm) = some ((D.tup xs).isTy t) := fun xs => kit_ty (by rw [k5]; cases t <;> rfl)
      rcases e with (e | ⟨o, e⟩) | ⟨o, its, n, e, ec, _⟩
      · exact ⟨_, .base (.tup (vis_some e).2), kk _⟩
      · exact ⟨_, .fTuple (vis_some e).2, kk _⟩
      · exact ⟨_, .kTuple e ec, kk _⟩
    | lst e r => exact ⟨_, .base (.lst (vis_some e).2), kit_ty (by rw [k6]; cases t <;> rfl)⟩
    | dK e _ _ _ => exact ⟨_, .base (.dK (vis_some e).2), kit_ty (by rw [k7]; cases t <;> rfl)⟩
    | dT e _ _ _ => exact ⟨_, .base (.dT (vis_some e).2), kit_ty (by rw [k7]; cases t <;> rfl)⟩
    | obj ec e _ _ _ =>
      have o := hO _ _ ec
      exact ⟨_, .base (.ins (vis_some e).2 o.cl o.ha o.hn o.ht o.hm), by rw [o.no]; cases t <;> rfl⟩
    | frz _ _ => cases nh
    | hand _ => cases nh
  · exact ⟨_, .base (.lst e), kit_ty (by rw [k6]; cases t <;> rfl)⟩
  · exact ⟨_, .base (.dK e), kit_ty (by rw [k7]; cases t <;> rfl)⟩
  · exact ⟨_, .base (.dT e), kit_ty (by rw [k7]; cases t <;> rfl)⟩
theorem dx_isT (t : Ty) {tn : Str} {p2 : Pos} (hK : X.K = S.G.K) (hO : ∀ c C, S.G.CT c = some C → ObjCls S.G.K C) (hm : X.mg "isinstance" = none) (hv : bootBuiltins "isinstance" = some (.builtin "isinstance")) (ha : DB S X a Ta)
    (hm2 : X.mg tn = none) (hv2 : bootBuiltins tn = some (.type t.nm)) (hg : Gl X "isinstance" := by rfl) (hg2 : Gl X tn := by rfl) (hn2 : tn ≠ "__name__" := by decide) (hd2 : (tn == ("__debug__" : Str)) = false := by decide)
    (he : starEach (a :: [.Name tn p2]) X.env = (false, eval a X.env) :: starEach [.Name tn p2] X.env := by rfl) (hpl : (backTo pos (starEach [.Name tn p2] X.env)).any (·.1) = false := by rfl) : DE S X (.Call (.Name "isinstance" p) [a, .Name tn p2] [] pos) (wIsT t Ta) := ⟨fun W tk => by
  obtain ⟨ta, pa, ra⟩ := ha.run W tk
  refine ⟨_, pe_callB call_isi hg hm hv (pa_cons pa (pa_cons (pe_bltn (v := .ty t.nm) hg2 hm2 hv2 rfl hn2 hd2) pa_nil) he) (by decide) (by decide) he hpl, fun Z env σ H Q E Q' R hT k x => ?_⟩
  refine ra Z env σ H _ E _ R hT (fun Z1 env1 v d H1 R1 t1 r1 h1 => ?_) x
  obtain ⟨u, ty, kk⟩ := kit_of_rep hO t r1 h1.1
  rw [← hK] at ty kk
  exact ⟨v, .ty t.nm, u, .type t.nm, _, rfl, .ty _, ty, kk, k Z1 env1 _ _ H1 R1 t1 (.bl _) h1.2⟩⟩
/-! ### the program's own defs -/
abbrev Fn := List D → (D → Prop) → (Er → Prop) → Prop
/-- a def's promise over plain data: T is told of the arguments' data -/
def spD (G : Pg) (n : Nat) (T : Fn) : Sp := fun vs H Q E => ∃ (Z : Zs) (ds : List D) (Qd : D → Prop) (Ed : Er → Prop), vs.length = n ∧ ds.length = n ∧ (∀ a ∈ Z.O, H a ≠ none) ∧ (∀ a, Z.h = some a → HandOk Z.O H a) ∧ RepL G (vis Z.O H) Z.h vs ds ∧ T ds Qd Ed ∧
  (∀ d v H', (∀ b o, H b = some o → Z.h ≠ some b → H' b = some o) → (∀ a, Z.h = some a → HandOk Z.O H' a) → RS G Z H' v d → Qd d → Q v H') ∧
  (∀ er cls dd H', (∀ b o, H b = some o → Z.h ≠ some b → H' b = some o) → (∀ a, Z.h = some a → HandOk Z.O H' a) → ErrOk G Z H' cls dd er → Ed er → E cls dd H')
/-- a def that may be called by the name x -/
structure Cal (P : Program) (w : World) (G : Pg) (mg : Str → Option Value) (base : Heap) (x : Str) (k n : Nat) (T : Fn) : Prop where
  ex : ∃ f fd ps, mg x = some (.ref f) ∧ PySem.W.keepIn G.K (.ref f) = true ∧ Binds G.K fd ps [] ∧ FnOk P w G.K mg base (L2.CX P w) k f fd ps (spD G n T)
theorem Cal.mono {P : Program} {w : World} {G : Pg} {mg : Str → Option Value} {base : Heap} {x : Str} {j k n : Nat} {T : Fn} (h : Cal P w G mg base x j n T) (l : j ≤ k) : Cal P w G mg base x k n T := by
  obtain ⟨f, fd, ps, h1, h2, h3, h4⟩ := h.ex
  exact ⟨f, fd, ps, h1, h2, h3, h4.mono l⟩
def wCall (n : Nat) (F : Fn) (T : TmL) : Tm := fun env Q E => T env (fun ds env1 => ds.length = n ∧ F ds (fun d => Q d env1) (fun er => E er env1)) E
theorem call_end {F : Fn} {n : Nat} {W : WX} {Z Z1 : Zs} {env1 : Env} {σ : L2.St} {H H1 : Hp} {Q : D → Env → Prop} {E : Ex} {Q' : VK} {vs : List V} {ds : List D} (R1 : Rel S Z1 env1 σ H1) (t1 : Tr Z H Z1 H1) (v1 : Vle Z H Z1 H1)
    (hl : vs.length = ds.length) (r1 : ∀ (i : Nat) v d, vs[i]? = some v → ds[i]? = some d → RS S.G Z1 H1 v d) (hn : ds.length = n) (h1 : F ds (fun d => Q d env1) (fun er => E er env1))
    (k : ∀ Z' env' v d H', Rel S Z' env' σ H' → Tr Z H Z' H' → RS S.G Z' H' v d → Q d env' → Q' v H') (x : ExOk S Z H σ E W) :
    spD S.G n F vs H1 Q' (WE W σ) := by
  refine ⟨Z1, ds, _, _, hl.trans hn, hn, R1.oin, R1.hnd, .of_all hl r1, h1, fun d v H' kp hd r q => ?_, fun er cls dd H' kp hd r q => ?_⟩
  · exact k Z1 env1 v d H' (R1.step kp hd) (Tr.trans R1 t1 ⟨kp, fun _ h => .inl h, fun _ h => h, fun _ h => .inl h, rfl⟩) r q
  · have t : Tr Z1 H1 Z1 H' := ⟨kp, fun _ h => .inl h, fun _ h => h, fun _ h => .inl h, rfl⟩
    exact x Z1 env1 cls dd er H' (R1.step kp hd) (v1.trans (R1.vle t)) r q
theorem dx_call {n k : Nat} {F : Fn} (C : Cal X.prog X.w S.G X.mg X.base x k n F) (hK : X.K = S.G.K) (hr : Room k X.A) (ha : DA S RS X (e :: es) T) (hg : Gl X x := by rfl) (hdb : (x == ("__debug__" : Str)) = false := by decide)
    (he : starEach (e :: es) X.env = (false, eval e X.env) :: starEach es X.env := by rfl) (hpl : (backTo pos (starEach es X.env)).any (·.1) = false := by rfl) : DE S X (.Call (.Name x p) (e :: es) [] pos) (wCall n F T) := ⟨fun W tk => by
  obtain ⟨ta, pa, ra⟩ := ha.run W tk
  obtain ⟨f, fd, ps, h1, h2, h3, h4⟩ := C.ex
  rw [← hK] at h2 h3
  have h4' : FnOk X.prog X.w X.K X.mg X.base (L2.CX X.prog X.w) k f fd ps (spD S.G n F) := by rw [hK]; exact h4
  refine ⟨_, pe_callS h4' hr hg h1 h2 h3 (fun σ => passAt tk σ) pa hdb he hpl, fun Z env σ H Q E Q' R hT k x => ?_⟩
  refine ra Z env σ H _ E _ R hT (fun Z1 env1 vs ds H1 R1 t1 hl r1 hh => ?_) x
  exact call_end R1 t1 (R.vle t1) hl r1 hh.1 hh.2 k x⟩
end
end DV

set_option Elab.async false
set_option linter.all false
set_option maxRecDepth 100000
/-! DV5: what is walked, targets, list comprehensions. -/
namespace DV
open PySem PySem.Spec PyProof.Rows L2

/-! ### the canonical readings: one for all contexts -/
def semE (S : Ent) (Rr : RT) (T : Tm) (W : WX) : TE := fun σ H Q' => ∃ Z env Q E, Rel S Z env σ H ∧ T env Q E ∧
  (∀ Z' env' v d H', Rel S Z' env' σ H' → Tr Z H Z' H' → Rr S.G Z' H' v d → Q d env' → Q' v H') ∧ ExOk S Z H σ E W
def semT (S : Ent) (T : Tt) (W : WX) : TT := fun σ H Q' => ∃ Z env Q E, Rel S Z env σ H ∧ T env Q E ∧
  (∀ Z' env' b H', Rel S Z' env' σ H' → Tr Z H Z' H' → Q b env' → Q' b H') ∧ ExOk S Z H σ E W
theorem DX.sem {S : Ent} {Rr : RT} {X : Cx} {e : Expr} {T : Tm} (h : DX S Rr X e T) {W : WX} (tk : Takes X W) : PE X e (semE S Rr T W) := by
  obtain ⟨t, p, q⟩ := h.run W tk
  exact ⟨fun pins s σ H Q I hh => by
    obtain ⟨Z, env, Qd, E, R, hT, k, x⟩ := hh
    exact p.run pins s σ H Q I (q Z env σ H Qd E Q R hT k x)⟩
theorem DT.sem {S : Ent} {X : Cx} {e : Expr} {T : Tt} (h : DT S X e T) {W : WX} (tk : Takes X W) : PT X e (semT S T W) := by
  obtain ⟨t, p, q⟩ := h.run W tk
  exact ⟨fun pins s σ H Q I hh => by
    obtain ⟨Z, env, Qd, E, R, hT, k, x⟩ := hh
    exact p.run pins s σ H Q I (q Z env σ H Qd E Q R hT k x)⟩

/-! ### what is walked -/
abbrev Ti := Env → (List D → Env → Prop) → Ex → Prop
/-- while P holds of the hidden and the heap the iterator gives the items -/
structure Yields (G : Pg) (P : Zs → Hp → Prop) (J : It) (items : List D) : Prop where
  go : ∀ Z H i, P Z H → i < items.length → J.go i H
  stop : ∀ Z H, P Z H → J.stop items.length H
  yld : ∀ Z H i x H', P Z H → (∀ a ∈ Z.O, H a ≠ none) → i < items.length → J.yld i H x H' → Same H H' ∧ ∀ d, items[i]? = some d → RS G Z H' x d
theorem Yields.imp {G : Pg} {P P' : Zs → Hp → Prop} {J : It} {items : List D} (y : Yields G P J items) (h : ∀ Z H, P' Z H → P Z H) : Yields G P' J items :=
  ⟨fun Z H i p hi => y.go Z H i (h Z H p) hi, fun Z H p => y.stop Z H (h Z H p), fun Z H i x H' p => y.yld Z H i x H' (h Z H p)⟩
abbrev PP := Zs → Hp → Zs → Hp → Prop
/-- a way to look at what is walked: stored values through statements, own lists through expressions alone -/
structure Md (Rr : RT) (P : PP) : Prop where
  rb : ∀ {G Z H v d}, Rr G Z H v d → RB G Z H v d
  lst : ∀ {S : Ent} {Z env σ H v xs}, Rel S Z env σ H → Rr S.G Z H v (.lst xs) → ∃ a vs, v = .ref a ∧ ∀ Z2 H2, P Z H Z2 H2 → SqL S.G.K H2 a vs ∧ RepL S.G (vis Z2.O H2) Z2.h vs xs
  tup : ∀ {S : Ent} {Z env σ H v xs}, Rel S Z env σ H → Rr S.G Z H v (.tup xs) → ∃ a vs, v = .ref a ∧ ∀ Z2 H2, P Z H Z2 H2 → SqT S.G.K H2 a vs ∧ RepL S.G (vis Z2.O H2) Z2.h vs xs
  refl : ∀ Z H, P Z H Z H
theorem mdS : Md RS Vle where
  rb h := .inl h
  lst R h := by
    cases h with
    | lst e r => exact ⟨_, _, rfl, fun Z2 H2 p => ⟨SqL.of (vis_some (p.same _ _ e)).2, p.repL r⟩⟩
  tup R h := by
    cases h with
    | tup e r => exact ⟨_, _, rfl, fun Z2 H2 p => ⟨sqT_vis (sqT_same p.same e), p.repL r⟩⟩
  refl _ _ := Vle.refl
/-- as Tr, whatever is kept apart -/
structure Mv (Z : Zs) (H : Hp) (Z' : Zs) (H' : Hp) : Prop where
  keep : ∀ b o, H b = some o → Z.h ≠ some b → H' b = some o
  osub : ∀ a ∈ Z'.O, a ∈ Z.O ∨ H a = none
  hh : ∀ a, Z.h = some a → Z'.h = some a
theorem Mv.tr {Z Z' : Zs} {H H' : Hp} (m : Mv Z H Z' H') (hz : ∀ x, Z'.h = some x → Z.h = some x ∨ H x = none) : Tr ⟨Z.O, Z.h, Z'.B⟩ H Z' H' := ⟨m.keep, m.osub, m.hh, hz, rfl⟩
theorem Mv.vle {S : Ent} {Z Z' : Zs} {H H' : Hp} {env : Env} {σ : L2.St} (m : Mv Z H Z' H') (R : Rel S Z env σ H) : Vle Z H Z' H' := by
  refine ⟨fun b o e => ?_, m.hh⟩
  obtain ⟨h1, h2⟩ := vis_some e
  have h3 : b ∉ Z'.O := fun hb => by
    rcases m.osub b hb with z | z
    · exact h1 z
    · rw [h2] at z; cases z
  rw [vis_out h3]
  exact m.keep b o h2 fun z => h1 (R.hin b z)
theorem mdB : Md RB Mv where
  rb h := h
  lst R h := by
    rcases h with h | ⟨a, vs, ys, rfl, e, n, h, r⟩ | ⟨a, vs, ds, kvs, rfl, e, _⟩
    · obtain ⟨a, vs, e, q⟩ := mdS.lst R h
      exact ⟨a, vs, e, fun Z2 H2 p => q Z2 H2 (p.vle R)⟩
    · cases e
      exact ⟨a, vs, rfl, fun Z2 H2 p => ⟨SqL.of (p.keep _ _ h n), (p.vle R).repL r⟩⟩
    · cases e
  tup R h := by
    rcases h with h | ⟨a, vs, ys, rfl, e, n, h, r⟩ | ⟨a, vs, ds, kvs, rfl, e, _⟩
    · obtain ⟨a, vs, e, q⟩ := mdS.tup R h
      exact ⟨a, vs, e, fun Z2 H2 p => q Z2 H2 (p.vle R)⟩
    · cases e
    · cases e
  refl _ _ := ⟨fun _ _ e _ => e, fun _ h => .inl h, fun _ h => h⟩
structure DI (S : Ent) (P : PP) (X : Cx) (tg iter : Expr) (T : Ti) : Prop where
  run : ∀ W, Takes X W → ∃ wi, PI X tg iter wi ∧ ∀ Z env σ H Q E (R' : It → Hp → Prop), Rel S Z env σ H → T env Q E →
    (∀ Z' env' J items H', Rel S Z' env' σ H' → Tr Z H Z' H' → Yields S.G (P Z' H') J items → Q items env' → R' J H') → ExOk S Z H σ E W → wi σ H R'
section
variable {S : Ent} {X : Cx} {P : PP} {Rr : RT} {tg l a b : Expr} {Ta Tb : Tm} {p pos : Pos}
/-- a list or a tuple -/
def iSq (K : PySem.W.Frag) (tl : TE) : TI := fun σ H R => tl σ H fun x H1 => ∃ a, x = .ref a ∧ (((∃ xs, SqL K H1 a xs) ∧ R (Itl K a) H1) ∨ ((∃ xs, SqT K H1 a xs) ∧ R (Itt K a) H1))
theorem pi_sq {tl : TE} (hl : PE X l tl) : PI X tg l (iSq X.K tl) := ⟨fun pins s σ H R I h => thn (hl.run pins s σ H _ I h) fun v s1 hq => by
  obtain ⟨x, H1, J, rx, a, rfl, hq⟩ := hq
  cases rx
  have fp : ∀ b ∈ [s1.heap.objs.size], FpOk X pins H1 b := fun b hb => by
    rw [List.mem_singleton.mp hb]
    exact J.fpOk (Nat.le_refl _) (J.hok.fresh (Nat.le_refl _))
  rcases hq with ⟨⟨xs, sq⟩, q⟩ | ⟨⟨xs, sq⟩, q⟩
  · obtain ⟨its, _, pl, _⟩ := J.list sq
    exact wpAny_pyIter_list pl.isList ⟨_, [_], _, _, H1, rfl, J.kept (t' := s1.toks) (fun _ _ e => Heap.get?_push_of_some _ e), turn_list a _, ⟨_, Heap.get?_push_size _ rfl, rfl, rfl⟩, fp, q⟩
  · obtain ⟨its, _, pl, _⟩ := J.tuple sq
    exact wpAny_pyIter_tuple (show s1.heap.IsTuple a its.toArray from pl) ⟨_, [_], _, _, H1, rfl, J.kept (t' := s1.toks) (fun _ _ e => Heap.get?_push_of_some _ e), turn_tuple a _, ⟨_, Heap.get?_push_size _ rfl, rfl, rfl⟩, fp, q⟩⟩
def itemsOf : D → Option (List D)
  | .lst xs => some xs
  | .tup xs => some xs
  | _ => none
def wiSq (T : Tm) : Ti := fun env Q E => T env (fun d env1 => ∃ xs, itemsOf d = some xs ∧ Q xs env1) E
theorem yields_of {G : Pg} {P : Zs → Hp → Prop} {J : It} {vs : List V} {xs : List D} {GG : Hp → Prop} (w : Walk J vs.length GG (YAt vs)) (hg : ∀ Z H, P Z H → GG H ∧ RepL G (vis Z.O H) Z.h vs xs) (hl : vs.length = xs.length) : Yields G P J xs := by
  refine ⟨fun Z H i p hi => w.goes i H (by omega) (hg Z H p).1, fun Z H p => by rw [← hl]; exact w.stops H (hg Z H p).1, fun Z H i x H' p oin hi y => ?_⟩
  obtain ⟨e1, e2⟩ := w.yields i H x H' (by omega) (hg Z H p).1 y
  subst e1
  refine ⟨fun _ _ e => e, fun d hd => ?_⟩
  obtain ⟨d', e3, r⟩ := (hg Z _ p).2.getV e2
  rw [hd] at e3; cases e3
  exact r
theorem di_sq (md : Md Rr P) (hK : X.K = S.G.K) (h : DX S Rr X l Ta) : DI S P X tg l (wiSq Ta) := ⟨fun W tk => by
  obtain ⟨t, pp, q⟩ := h.run W tk
  refine ⟨_, pi_sq pp, fun Z env σ H Q E R' R hT k x => ?_⟩
  refine q Z env σ H _ E _ R hT (fun Z1 env1 v d H1 R1 t1 r1 h1 => ?_) x
  obtain ⟨xs, ex, h1⟩ := h1
  cases d with
  | lst ys =>
    cases ex
    obtain ⟨a, vs, rfl, st⟩ := md.lst R1 r1
    obtain ⟨s0, r0⟩ := st Z1 H1 (md.refl _ _)
    rw [← hK] at s0
    refine ⟨a, rfl, .inl ⟨⟨vs, s0⟩, k Z1 env1 _ xs H1 R1 t1 (yields_of walk_list (fun Z2 H2 p => ?_) r0.length) h1⟩⟩
    have := st Z2 H2 p
    rw [← hK] at this
    exact this
  | tup ys =>
    cases ex
    obtain ⟨a, vs, rfl, st⟩ := md.tup R1 r1
    obtain ⟨s0, r0⟩ := st Z1 H1 (md.refl _ _)
    rw [← hK] at s0
    refine ⟨a, rfl, .inr ⟨⟨vs, s0⟩, k Z1 env1 _ xs H1 R1 t1 (yields_of walk_tup (fun Z2 H2 p => ?_) r0.length) h1⟩⟩
    have := st Z2 H2 p
    rw [← hK] at this
    exact this
  | non => cases ex
  | bl _ => cases ex
  | int _ => cases ex
  | str _ => cases ex
  | dct _ => cases ex
  | obj _ _ => cases ex
  | frz _ => cases ex
  | hand => cases ex⟩
/-- range -/
def rangeD (lo hi : Int) : List D := (List.range (hi - lo).toNat).map fun (k : Nat) => D.int (lo + k)
theorem rangeD_len (lo hi : Int) : (rangeD lo hi).length = (hi - lo).toNat := by unfold rangeD; simp
def wiR1 (T : Tm) : Ti := fun env Q E => T env (fun d env1 => match d with | .int j => -4611686018427387904 ≤ j ∧ j < 4611686018427387904 ∧ Q (rangeD 0 j) env1 | _ => False) E
def wiR2 (Ta Tb : Tm) : Ti := fun env Q E => Ta env (fun d env1 => Tb env1 (fun d2 env2 => match d, d2 with
  | .int i, .int j => -4611686018427387904 ≤ i ∧ i < 4611686018427387904 ∧ -4611686018427387904 ≤ j ∧ j < 4611686018427387904 ∧ Q (rangeD i j) env2
  | _, _ => False) E) E
theorem yields_range {G : Pg} {P : Zs → Hp → Prop} (lo hi : Int) : Yields G P (Itr lo (hi - lo).toNat) (rangeD lo hi) := by
  refine ⟨fun Z H i p hi' => by rw [rangeD_len] at hi'; exact hi', fun Z H p => by rw [rangeD_len]; exact Nat.le_refl _, fun Z H i x H' p oin hi' y => ?_⟩
  obtain ⟨rfl, rfl⟩ := y
  refine ⟨fun _ _ e => e, fun d hd => ?_⟩
  unfold rangeD at hd
  rw [List.getElem?_map] at hd
  cases q : (List.range (hi - lo).toNat)[i]? with
  | none => rw [q] at hd; cases hd
  | some k =>
    rw [q] at hd
    have := List.getElem?_range (by rw [rangeD_len] at hi'; exact hi')
    rw [this] at q; cases q; cases hd
    exact .int _
theorem di_r1 (hm : X.mg "range" = none) (h : DB S X a Ta) (hg : Gl X "range" := by rfl) (hs : starEach [a] X.env = [(false, eval a X.env)] := by rfl) : DI S P X tg (.Call (.Name "range" p) [a] [] pos) (wiR1 Ta) := ⟨fun W tk => by
  obtain ⟨t, pp, q⟩ := h.run W tk
  refine ⟨_, pi_range1 hg hm (pa_cons pp pa_nil hs) hs, fun Z env σ H Q E R' R hT k x => ?_⟩
  refine q Z env σ H _ E _ R hT (fun Z1 env1 v d H1 R1 t1 r1 h1 => ?_) x
  split at h1
  · obtain ⟨b1, b2, h1⟩ := h1
    rw [r1.int]
    refine ⟨_, rfl, by omega, by omega, ?_⟩
    have := k Z1 env1 _ _ H1 R1 t1 (yields_range 0 _) h1
    simpa using this
  · exact h1.elim⟩
theorem di_r2 (hm : X.mg "range" = none) (h : DB S X a Ta) (h' : DB S X b Tb) (hg : Gl X "range" := by rfl) (hs : starEach [a, b] X.env = [(false, eval a X.env), (false, eval b X.env)] := by rfl) (hs2 : starEach [b] X.env = [(false, eval b X.env)] := by rfl) :
    DI S P X tg (.Call (.Name "range" p) [a, b] [] pos) (wiR2 Ta Tb) := ⟨fun W tk => by
  obtain ⟨t, pp, q⟩ := h.run W tk
  obtain ⟨t', pp', q'⟩ := h'.run W tk
  refine ⟨_, pi_range2 hg hm (pa_cons pp (pa_cons pp' pa_nil hs2) (by rw [hs, hs2])) hs hs2, fun Z env σ H Q E R' R hT k x => ?_⟩
  refine q Z env σ H _ E _ R hT (fun Z1 env1 v d H1 R1 t1 r1 h1 => ?_) x
  refine q' Z1 env1 σ H1 _ E _ R1 h1 (fun Z2 env2 v2 d2 H2 R2 t2 r2 h2 => ?_) (x.on (R.vle t1))
  split at h2
  · obtain ⟨b1, b2, b3, b4, h2⟩ := h2
    rw [r1.int, r2.int]
    exact ⟨_, _, rfl, ⟨by omega, by omega, by omega, by omega⟩, k Z2 env2 _ _ H2 R2 (Tr.trans R1 t1 t2) (yields_range _ _) h2⟩
  · exact h2.elim⟩
/-- enumerate of a list -/
def enumD : Nat → List D → List D
  | _, [] => []
  | k, x :: r => .tup [.int k, x] :: enumD (k + 1) r
theorem enumD_len : ∀ (k : Nat) (xs : List D), (enumD k xs).length = xs.length
  | _, [] => rfl
  | k, _ :: r => by rw [enumD, List.length_cons, List.length_cons, enumD_len (k + 1) r]
theorem enumD_get : ∀ (k : Nat) (xs : List D) (i : Nat), (enumD k xs)[i]? = xs[i]?.map fun x => .tup [.int ((k + i : Nat) : Int), x]
  | _, [], i => by simp [enumD]
  | k, x :: r, 0 => by simp [enumD]
  | k, x :: r, i + 1 => by
    rw [enumD, List.getElem?_cons_succ, List.getElem?_cons_succ, enumD_get (k + 1) r i]
    have : k + 1 + i = k + (i + 1) := by omega
    rw [this]
theorem yields_enum {G : Pg} {P : Zs → Hp → Prop} {a : Addr} {vs : List V} {xs : List D} (st : ∀ Z2 H2, P Z2 H2 → SqL G.K H2 a vs ∧ RepL G (vis Z2.O H2) Z2.h vs xs) (hl : vs.length = xs.length) : Yields G P (Ite G.K a) (enumD 0 xs) := by
  refine ⟨fun Z H i p hi => ?_, fun Z H p => ?_, fun Z H i x H' p oin hi y => ?_⟩
  · exact walk_enum.goes i H (by rw [enumD_len] at hi; omega) (st Z H p).1
  · have := walk_enum.stops H (st Z H p).1
    rw [enumD_len, ← hl]; exact this
  · obtain ⟨s1, r1⟩ := st Z H p
    obtain ⟨T, x', y', rfl, hT, rfl, e1, e2⟩ := walk_enum.yields i H x H' (by rw [enumD_len] at hi; omega) s1 y
    cases e1
    refine ⟨same_upd hT, fun d hd => ?_⟩
    obtain ⟨d', e3, r⟩ := r1.getV e2
    rw [enumD_get, e3] at hd
    cases hd
    have e0 : 0 + i = i := Nat.zero_add i
    rw [e0]
    exact new_tup oin hT (.cons (.int _) (.cons r .nil))
def wiEn (T : Tm) : Ti := fun env Q E => T env (fun d env1 => match d with | .lst xs => Q (enumD 0 xs) env1 | _ => False) E
theorem di_enL {elts : List Expr} {kk : Nat} {tpos : Pos} (md : Md Rr P) (hK : X.K = S.G.K) (hm : X.mg "enumerate" = none) (h : DX S Rr X a Ta) (hg : Gl X "enumerate" := by rfl) (hs : starEach [a] X.env = [(false, eval a X.env)] := by rfl) :
    DI S P X (.Tuple elts kk tpos) (.Call (.Name "enumerate" p) [a] [] pos) (wiEn Ta) := ⟨fun W tk => by
  obtain ⟨t, pp, q⟩ := h.run W tk
  refine ⟨_, pi_enum hg hm (pa_cons pp pa_nil hs) hs, fun Z env σ H Q E R' R hT k x => ?_⟩
  refine q Z env σ H _ E _ R hT (fun Z1 env1 v d H1 R1 t1 r1 h1 => ?_) x
  split at h1
  · obtain ⟨a, vs, rfl, st⟩ := md.lst R1 r1
    obtain ⟨s0, r0⟩ := st Z1 H1 (md.refl _ _)
    refine ⟨a, vs, rfl, by rw [hK]; exact s0, ?_⟩
    rw [hK]
    exact k Z1 env1 _ _ H1 R1 t1 (yields_enum st r0.length) h1
  · exact h1.elim⟩
/-- zip of two lists, of two tuples -/
def zipD : List D → List D → List D
  | x :: xs, y :: ys => .tup [x, y] :: zipD xs ys
  | _, _ => []
theorem zipD_len : ∀ xs ys, (zipD xs ys).length = min xs.length ys.length
  | [], ys => by simp [zipD]
  | x :: xs, [] => by simp [zipD]
  | x :: xs, y :: ys => by rw [zipD, List.length_cons, zipD_len xs ys, List.length_cons, List.length_cons]; omega
theorem zipD_get : ∀ (xs ys : List D) (i : Nat) (x y : D), xs[i]? = some x → ys[i]? = some y → (zipD xs ys)[i]? = some (.tup [x, y])
  | [], _, _, _, _, e, _ => by simp at e
  | _ :: _, [], _, _, _, _, e => by simp at e
  | x :: xs, y :: ys, 0, _, _, e1, e2 => by simp at e1 e2; subst e1 e2; rfl
  | x :: xs, y :: ys, i + 1, a, b, e1, e2 => by
    rw [zipD, List.getElem?_cons_succ]
    exact zipD_get xs ys i a b (by simpa using e1) (by simpa using e2)
theorem yields_pair {G : Pg} {P : Zs → Hp → Prop} {J : It} {vs ws : List V} {xs ys : List D} {GG : Hp → Prop} (w : Walk J (min vs.length ws.length) GG (YPair (fun i => vs[i]?) (fun i => ws[i]?)))
    (st : ∀ Z2 H2, P Z2 H2 → GG H2 ∧ RepL G (vis Z2.O H2) Z2.h vs xs ∧ RepL G (vis Z2.O H2) Z2.h ws ys) (hl : vs.length = xs.length) (hl2 : ws.length = ys.length) : Yields G P J (zipD xs ys) := by
  refine ⟨fun Z H i p hi => ?_, fun Z H p => ?_, fun Z H i x H' p oin hi y => ?_⟩
  · exact w.goes i H (by rw [zipD_len] at hi; omega) (st Z H p).1
  · have := w.stops H (st Z H p).1
    rw [zipD_len, ← hl, ← hl2]; exact this
  · obtain ⟨g1, r1, r2⟩ := st Z H p
    obtain ⟨T, x', y', rfl, hT, rfl, e1, e2⟩ := w.yields i H x H' (by rw [zipD_len] at hi; omega) g1 y
    refine ⟨same_upd hT, fun d hd => ?_⟩
    obtain ⟨d1, e3, q1⟩ := r1.getV e1
    obtain ⟨d2, e4, q2⟩ := r2.getV e2
    rw [zipD_get xs ys i d1 d2 e3 e4] at hd
    cases hd
    exact new_tup oin hT (.cons q1 (.cons q2 .nil))
theorem walk_zipT {K : PySem.W.Frag} {a b : Addr} {xs ys : List V} : Walk (RZ.ItzT K a b) (min xs.length ys.length) (fun H => SqT K H a xs ∧ SqT K H b ys) (YPair (fun i => xs[i]?) (fun i => ys[i]?)) := by
  refine ⟨fun i H hi q => ?_, fun H q => ⟨xs, ys, q.1, q.2, by omega⟩, fun i H v H' hi q y => ?_⟩
  · have h1 : i < xs.length := by omega
    have h2 : i < ys.length := by omega
    exact ⟨xs, ys, xs[i], ys[i], q.1, q.2, by simp [h1], by simp [h2]⟩
  · obtain ⟨T, x, z, h1, h2, h3, h4, h5⟩ := y
    exact ⟨T, x, z, h1, h2, h3, h4 xs q.1, h5 ys q.2⟩
def wiZip (Ta Tb : Tm) : Ti := fun env Q E => Ta env (fun d env1 => Tb env1 (fun d2 env2 => match d, d2 with
  | .lst xs, .lst ys => Q (zipD xs ys) env2
  | .tup xs, .tup ys => Q (zipD xs ys) env2
  | _, _ => False) E) E
theorem di_zip {elts : List Expr} {kk : Nat} {tpos : Pos} (md : Md Rr P) (ron : ∀ {Z env σ H Z' H' v d}, Rr S.G Z H v d → Rel S Z env σ H → Tr Z H Z' H' → Rr S.G Z' H' v d) (hK : X.K = S.G.K) (hm : X.mg "zip" = none) (h : DX S Rr X a Ta) (h' : DX S Rr X b Tb) (hg : Gl X "zip" := by rfl)
    (hs : starEach [a, b] X.env = (false, eval a X.env) :: starEach [b] X.env := by rfl) (hpl : (backTo pos (starEach [b] X.env)).any (·.1) = false := by rfl) (hs2 : starEach [b] X.env = (false, eval b X.env) :: starEach [] X.env := by rfl) :
    DI S P X (.Tuple elts kk tpos) (.Call (.Name "zip" p) [a, b] [] pos) (wiZip Ta Tb) := ⟨fun W tk => by
  obtain ⟨t, pp, q⟩ := h.run W tk
  obtain ⟨t', pp', q'⟩ := h'.run W tk
  refine ⟨_, RZ.pi_zipA hg hm (pa_cons pp (pa_cons pp' pa_nil hs2) hs) hs hpl, fun Z env σ H Q E R' R hT k x => ?_⟩
  refine q Z env σ H _ E _ R hT (fun Z1 env1 v d H1 R1 t1 r1 h1 => ?_) x
  refine q' Z1 env1 σ H1 _ E _ R1 h1 (fun Z2 env2 v2 d2 H2 R2 t2 r2 h2 => ?_) (x.on (R.vle t1))
  have r1' := ron r1 R1 t2
  split at h2
  · obtain ⟨a, vs, rfl, st⟩ := md.lst R2 r1'
    obtain ⟨b, ws, rfl, st2⟩ := md.lst R2 r2
    obtain ⟨s0, r0⟩ := st Z2 H2 (md.refl _ _)
    obtain ⟨s02, r02⟩ := st2 Z2 H2 (md.refl _ _)
    refine ⟨a, b, vs, ws, rfl, .inl ⟨by rw [hK]; exact s0, by rw [hK]; exact s02, ?_⟩⟩
    rw [hK]
    exact k Z2 env2 _ _ H2 R2 (Tr.trans R1 t1 t2) (yields_pair (walk_zip rfl) (fun Z3 H3 p => ⟨⟨(st Z3 H3 p).1, (st2 Z3 H3 p).1⟩, (st Z3 H3 p).2, (st2 Z3 H3 p).2⟩) r0.length r02.length) h2
  · obtain ⟨a, vs, rfl, st⟩ := md.tup R2 r1'
    obtain ⟨b, ws, rfl, st2⟩ := md.tup R2 r2
    obtain ⟨s0, r0⟩ := st Z2 H2 (md.refl _ _)
    obtain ⟨s02, r02⟩ := st2 Z2 H2 (md.refl _ _)
    refine ⟨a, b, vs, ws, rfl, .inr ⟨by rw [hK]; exact s0, by rw [hK]; exact s02, ?_⟩⟩
    rw [hK]
    exact k Z2 env2 _ _ H2 R2 (Tr.trans R1 t1 t2) (yields_pair walk_zipT (fun Z3 H3 p => ⟨⟨(st Z3 H3 p).1, (st2 Z3 H3 p).1⟩, (st Z3 H3 p).2, (st2 Z3 H3 p).2⟩) r0.length r02.length) h2
  · exact h2.elim⟩

/-! ### targets of names -/
abbrev Tg := D → Env → (Env → Prop) → Prop
abbrev Tgs := List D → Env → (Env → Prop) → Prop
/-- ix: the slots that are stored -/
structure DG (S : Ent) (X : Cx) (tg : Expr) (ix : List Nat) (g : Tg) : Prop where
  run : ∃ t, PG X tg t ∧ ∀ Z env σ H v d (K : Env → Prop) (K' : L2.St → Hp → Prop), Rel S Z env σ H → RS S.G Z H v d → g d env K →
    (∀ env' σ', Rel S Z env' σ' H → (∀ vs, (∀ i ∈ ix, i ∈ vs) → L2.wipe σ' vs = L2.wipe σ vs) → K env' → K' σ' H) → t v σ H K'
structure DGs (S : Ent) (X : Cx) (tg : List Expr) (ix : List Nat) (g : Tgs) : Prop where
  run : ∃ t, PGs X tg t ∧ ∀ Z env σ H vs ds (K : Env → Prop) (K' : L2.St → Hp → Prop), Rel S Z env σ H → RepL S.G (vis Z.O H) Z.h vs ds → g ds env K →
    (∀ env' σ', Rel S Z env' σ' H → (∀ vs, (∀ i ∈ ix, i ∈ vs) → L2.wipe σ' vs = L2.wipe σ vs) → K env' → K' σ' H) → t vs σ H K'
theorem wipe_set {i : Nat} {x : Option V} (σ : L2.St) : ∀ {vs : List Nat}, i ∈ vs → L2.wipe (σ.set i x) vs = L2.wipe σ vs
  | v :: vs, h => by
    unfold L2.wipe
    by_cases hv : i = v
    · subst hv
      apply List.ext_getElem?
      intro j
      by_cases hj : i = j
      · subst hj
        by_cases hi : i < σ.length
        · rw [List.getElem?_set_self (by rw [wipe_length, List.length_set]; exact hi), List.getElem?_set_self (by rw [wipe_length]; exact hi)]
        · rw [List.getElem?_eq_none (by rw [List.length_set, wipe_length, List.length_set]; omega), List.getElem?_eq_none (by rw [List.length_set, wipe_length]; omega)]
      · rw [List.getElem?_set_ne hj, List.getElem?_set_ne hj]
        by_cases hm : j ∈ vs
        · by_cases hlt : j < σ.length
          · have h1 : ∀ s : L2.St, j < s.length → (L2.wipe s vs)[j]? = some none := fun s hs => by
              cases q : (L2.wipe s vs)[j]? with
              | none => rw [List.getElem?_eq_none_iff, wipe_length] at q; omega
              | some o =>
                cases o with
                | none => rfl
                | some w => exact absurd hm (wipe_some q).2
            rw [h1 _ (by rw [List.length_set]; exact hlt), h1 _ hlt]
          · rw [List.getElem?_eq_none (by rw [wipe_length, List.length_set]; omega), List.getElem?_eq_none (by rw [wipe_length]; omega)]
        · rw [wipe_out hm, wipe_out hm, List.getElem?_set_ne hj]
    · rw [wipe_set σ ((List.mem_cons.mp h).resolve_left hv)]
def gN (i : Nat) : Tg := fun d env K => K (env.set i (.val d))
theorem dg_name (i : Nat) {x : Str} {pos : Pos} (hN : X.N.Nodup) (hi : X.N[i]? = some x := by rfl) (hx : Loc X.env.scope x := by first | exact Or.inl rfl | exact Or.inr rfl) (hf : X.fn x = true ∨ X.env.scope.names.lookup x = some .local := by first | exact .inl rfl | exact .inr rfl) :
    DG S X (.Name x pos) [i] (gN i) := ⟨_, pg_name hN hi hx hf, fun Z env σ H v d K K' R r hg k => k _ _ (R.put r) (fun vs h => wipe_set σ (h i List.mem_cons_self)) hg⟩
def gNil : Tgs := fun ds env K => ds = [] ∧ K env
def gCons (g : Tg) (gs : Tgs) : Tgs := fun ds env K => match ds with
  | d :: r => g d env fun env1 => gs r env1 K
  | [] => False
def gTup (n : Nat) (gs : Tgs) : Tg := fun d env K => match d with
  | .tup ds => ds.length = n ∧ gs ds env K
  | _ => False
theorem dgs_nil : DGs S X [] [] gNil := ⟨_, pgs_nil, fun Z env σ H vs ds K K' R r hg k => by
  obtain ⟨rfl, hg⟩ := hg
  cases r
  exact ⟨rfl, k env σ R (fun _ _ => rfl) hg⟩⟩
theorem dgs_cons {e : Expr} {es : List Expr} {ix ix' : List Nat} {g : Tg} {gs : Tgs} (h1 : DG S X e ix g) (h2 : DGs S X es ix' gs) (hs : (assignEach (e :: es) X.env).map (·.2) = assign e X.env :: (assignEach es X.env).map (·.2) := by rfl) :
    DGs S X (e :: es) (ix ++ ix') (gCons g gs) := by
  obtain ⟨t, p, q⟩ := h1.run
  obtain ⟨t', p', q'⟩ := h2.run
  refine ⟨_, pgs_cons p p' hs, fun Z env σ H vs ds K K' R r hg k => ?_⟩
  cases r with
  | nil => exact hg.elim
  | cons r rs =>
    refine ⟨_, _, rfl, q Z env σ H _ _ _ _ R r hg fun env1 σ1 R1 w1 h1 => ?_⟩
    refine q' Z env1 σ1 H _ _ _ _ R1 rs h1 fun env2 σ2 R2 w2 h2 => k env2 σ2 R2 (fun vs hv => ?_) h2
    rw [w2 vs fun i hi => hv i (List.mem_append_right _ hi), w1 vs fun i hi => hv i (List.mem_append_left _ hi)]
theorem dg_tup {es : List Expr} {kk : Nat} {pos : Pos} {ix : List Nat} {gs : Tgs} {n : Nat} (hK : X.K = S.G.K) (hc : X.calm = true) (h : DGs S X es ix gs) (hn : (assignEach es X.env).length = n := by rfl) (hst : (assignEach es X.env).findIdx? (·.1) = none := by rfl) :
    DG S X (.Tuple es kk pos) ix (gTup n gs) := by
  obtain ⟨t, p, q⟩ := h.run
  refine ⟨_, pg_tup hc p hn hst, fun Z env σ H v d K K' R r hg k => ?_⟩
  unfold gTup at hg
  split at hg
  · cases r with
    | tup e rl =>
      exact ⟨_, _, rfl, by rw [hK]; exact sqT_vis e, by rw [rl.length]; exact hg.1, q Z env σ H _ _ K K' R rl hg.2 k⟩
  · exact hg.elim

/-! ### [elt for target in iter if test] -/
/-- a clause's tests -/
structure DIf (S : Ent) (X : Cx) (ifs : List Expr) (A : Tt) : Prop where
  sem : ∀ W, Takes X W → PTs X ifs (semT S A W)
def wYes : Tt := fun env Q _ => Q true env
theorem dif_nil : DIf S X [] wYes := ⟨fun W tk => ⟨fun pins s σ H Q I hh => by
  obtain ⟨Z, env, Qd, E, R, hT, k, x⟩ := hh
  exact pts_nil.run pins s σ H Q I (k Z env true H R .refl hT)⟩⟩
theorem dif_one {c : Expr} {A : Tt} (h : DT S X c A) : DIf S X [c] A := ⟨fun W tk => pts_one (h.sem tk)⟩
/-- the turns: acc what is made so far -/
def lcGo (g : Tg) (A : Tt) (Te : Tm) (ws : List Nat) : List D → List D → Env → (List D → Env → Prop) → Prop
  | [], acc, env, K => K acc env
  | x :: xs, acc, env, K => g x env fun env1 => A env1 (fun b env2 => if b = true then Te env2 (fun d env3 => lcGo g A Te ws xs (acc ++ [d]) (wipeE env3 ws) K) (fun _ _ => False) else lcGo g A Te ws xs acc (wipeE env2 ws) K) fun _ _ => False
def wLc (Ti' : Ti) (g : Tg) (A : Tt) (Te : Tm) (ws : List Nat) : Tf := fun env Q E => Ti' env (fun xs env1 => xs.length ≤ big ∧ lcGo g A Te ws xs [] (wipeE env1 ws) fun acc env2 => ∀ a, Q (.own a acc) (restE env1 env2 ws)) E
theorem restE_get {env e2 : Env} : ∀ {vs : List Nat} {j : Nat} {x : Sl}, (restE env e2 vs)[j]? = some x → x.owns = true → j ∉ vs ∧ e2[j]? = some x
  | [], j, x, h, _ => ⟨by simp, h⟩
  | v :: vs, j, x, h, o => by
    unfold restE at h
    by_cases hj : v = j
    · subst hj
      by_cases hv : v < (restE env e2 vs).length
      · rw [List.getElem?_set_self hv] at h
        cases h
        cases q : env[v]?.getD .no <;> rw [q] at o <;> cases o
      · rw [List.getElem?_eq_none (by simpa using hv)] at h; cases h
    · rw [List.getElem?_set_ne hj] at h
      obtain ⟨h1, h2⟩ := restE_get h o
      exact ⟨by simp [Ne.symm hj, h1], h2⟩
theorem Spare.back {Z : Zs} {env e2 : Env} {σ : L2.St} {ws : List Nat} {a : Addr} (sp : Spare S Z e2 (L2.wipe σ ws) a) : Spare S Z (restE env e2 ws) σ a :=
  ⟨sp.ino, sp.nh, sp.ne, fun j x e o s => by
    obtain ⟨h1, h2⟩ := restE_get e o
    exact sp.no j x h2 o (by rw [wipe_out h1]; exact s)⟩
theorem wipe_wipe (σ : L2.St) (ws : List Nat) : L2.wipe (L2.wipe σ ws) ws = L2.wipe σ ws := by
  apply List.ext_getElem?
  intro j
  by_cases hm : j ∈ ws
  · have h1 : ∀ s : L2.St, j < s.length → (L2.wipe s ws)[j]? = some none := fun s hs => by
      cases q : (L2.wipe s ws)[j]? with
      | none => rw [List.getElem?_eq_none_iff, wipe_length] at q; omega
      | some o =>
        cases o with
        | none => rfl
        | some w => exact absurd hm (wipe_some q).2
    by_cases hlt : j < σ.length
    · rw [h1 _ (by rw [wipe_length]; exact hlt), h1 _ hlt]
    · rw [List.getElem?_eq_none (by rw [wipe_length, wipe_length]; omega), List.getElem?_eq_none (by rw [wipe_length]; omega)]
  · rw [wipe_out hm]
abbrev W0 : WX := fun _ _ _ _ => False
theorem exOk0 {Z : Zs} {H : Hp} {σ : L2.St} : ExOk S Z H σ (fun _ _ => False) W0 := fun _ _ _ _ _ _ _ _ _ hf => hf
theorem lc_turns {D0 : Addr} {g : Tg} {A : Tt} {Te : Tm} {ws ix : List Nat} {gt : TG} (hix : ∀ i ∈ ix, i ∈ ws)
    (rg : ∀ Z env σ H v d (K : Env → Prop) (K' : L2.St → Hp → Prop), Rel S Z env σ H → RS S.G Z H v d → g d env K →
      (∀ env' σ', Rel S Z env' σ' H → (∀ vs, (∀ i ∈ ix, i ∈ vs) → L2.wipe σ' vs = L2.wipe σ vs) → K env' → K' σ' H) → gt v σ H K')
    {Z1 : Zs} {env1 : Env} {σ : L2.St} {H1 : Hp} {J : It} {items : List D} {Qf : Hp → Prop} {Kf : List D → Env → Prop} (R1 : Rel S Z1 env1 σ H1) (y : Yields S.G (Mv Z1 H1) J items) (hD : H1 D0 = none) (hz : items.length ≤ big)
    (hT : lcGo g A Te ws items [] (wipeE env1 ws) Kf)
    (fin : ∀ Z' e2 vs acc H', Rel S Z' e2 (L2.wipe σ ws) H' → Tr ⟨Z1.O, Z1.h, D0 :: Z1.B⟩ H1 Z' H' → H' D0 = some (.lst vs) → RepL S.G (vis Z'.O H') Z'.h vs acc → Kf acc e2 → Qf H') :
    ∃ W : Nat → Nat → Hp → Prop, (∃ m, W 0 m (upd H1 D0 (.lst []))) ∧ ∀ i m H, W i m H →
      (J.stop i H ∧ Qf H) ∨ (J.go i H ∧ ∃ Nx : Hp → Prop, (∀ H', Nx H' → ∃ m', m' < m ∧ W (i + 1) m' H') ∧ ∀ x H', J.yld i H x H' → gt x (L2.wipe σ ws) H' fun σ2 H2 => L2.wipe σ2 ws = L2.wipe σ ws ∧ semT S A W0 σ2 H2 fun b H3 =>
        if b = true then semE S RS Te W0 σ2 H3 fun y H4 => ∃ acc, H4 D0 = some (.lst acc) ∧ acc.length < sizeLine ∧ Nx (upd H4 D0 (.lst (acc ++ [y]))) else Nx H3) := by
  let Inv : Nat → Hp → Prop := fun i H => ∃ Z' e2 vs acc, Rel S Z' e2 (L2.wipe σ ws) H ∧ Tr ⟨Z1.O, Z1.h, D0 :: Z1.B⟩ H1 Z' H ∧ H D0 = some (.lst vs) ∧ RepL S.G (vis Z'.O H) Z'.h vs acc ∧ acc.length + (items.length - i) ≤ big ∧ lcGo g A Te ws (items.drop i) acc e2 Kf
  refine ⟨fun i m H => m = items.length - i ∧ i ≤ items.length ∧ Inv i H, ⟨_, rfl, Nat.zero_le _, ?_⟩, ?_⟩
  · obtain ⟨R2, t2, no, h0, hh, hn⟩ := R1.hide (o := .lst []) hD
    have R3 := (R2.reserve (p := D0) ⟨List.mem_cons_self, hh, h0, no⟩).wipe ws
    exact ⟨_, _, [], [], R3, ⟨t2.keep, t2.osub, t2.hh, t2.hz, rfl⟩, upd_same, .nil, by simpa using hz, hT⟩
  · rintro i m H ⟨rfl, hi, Z', e2, vs, acc, R, t, hD', rl, hl, hgo⟩
    have mv : Mv Z1 H1 Z' H := ⟨t.keep, t.osub, t.hh⟩
    by_cases hlt : i < items.length
    · refine .inr ⟨y.go _ H i mv hlt, Inv (i + 1), fun H' h => ⟨items.length - (i + 1), by omega, rfl, hlt, h⟩, fun x H' hy => ?_⟩
      obtain ⟨sm, hx⟩ := y.yld _ H i x H' mv R.oin hlt hy
      have hd : items[i]? = some items[i] := List.getElem?_eq_getElem hlt
      rw [List.drop_eq_getElem_cons hlt] at hgo
      have R' := R.grow sm
      have rx : RS S.G Z' H' x items[i] := hx _ hd
      refine rg Z' e2 _ H' x _ _ _ R' rx hgo fun env3 σ3 R3 w3 h3 => ?_
      have wS : L2.wipe σ3 ws = L2.wipe σ ws := by rw [w3 ws hix, wipe_wipe]
      have carry : ∀ {Z5 env5 H5}, Rel S Z5 env5 σ3 H5 → Tr Z' H Z5 H5 → H5 D0 = some (.lst vs) ∧ RepL S.G (vis Z5.O H5) Z5.h vs acc ∧ Tr ⟨Z1.O, Z1.h, D0 :: Z1.B⟩ H1 Z5 H5 := fun {Z5 env5 H5} R5 t5 =>
        ⟨t5.keep _ _ hD' (R.res D0 (by rw [t.bb]; exact List.mem_cons_self)).nh, (R.vle t5).repL rl, Tr.trans R t t5⟩
      refine ⟨wS, Z', env3, _, _, R3, h3, fun Z4 env4 b H4 R4 t4 hb => ?_, exOk0⟩
      have t' : Tr Z' H Z4 H4 := Tr.trans R' (.alloc sm) t4
      cases b with
      | false =>
        refine iteF ?_
        rw [if_neg Bool.false_ne_true] at hb
        obtain ⟨q1, q2, q4⟩ := carry R4 t'
        have Rw := R4.wipe ws
        rw [wS] at Rw
        exact ⟨Z4, _, vs, acc, Rw, q4, q1, q2, by omega, hb⟩
      | true =>
        refine iteT ?_
        rw [if_pos rfl] at hb
        refine ⟨Z4, env4, _, _, R4, hb, fun Z5 env5 v d H5 R5 t5 r5 h5 => ?_, exOk0⟩
        have t'' := Tr.trans R4 t' t5
        obtain ⟨q1, q2, q4⟩ := carry R5 t''
        have hlen := q2.length
        refine ⟨vs, q1, by rw [hlen, sizeLine_eq]; unfold big at hl; omega, ?_⟩
        have sp := R5.res D0 (by rw [q4.bb]; exact List.mem_cons_self)
        have Rp := (R5.poke (o := .lst (vs ++ [v])) sp).wipe ws
        rw [wS] at Rp
        refine ⟨Z5, _, vs ++ [v], acc ++ [d], Rp, ⟨fun b o e n => ?_, q4.osub, q4.hh, q4.hz, q4.bb⟩, upd_same, ?_, ?_, h5⟩
        · rw [upd_ne (ne_of_none e hD)]
          exact q4.keep b o e n
        · rw [vis_upd_in sp.ino]
          exact q2.append (.cons r5 .nil)
        · rw [List.length_append]
          simp only [List.length_cons, List.length_nil]
          omega
    · have e : i = items.length := by omega
      subst e
      rw [List.drop_length] at hgo
      exact .inl ⟨y.stop _ H mv, fin Z' e2 vs acc H R t hD' rl hgo⟩
theorem df_lc {elt tg iter : Expr} {ifs : List Expr} {scope : Scope} {own : List (Str × Nat)} {pos : Pos} {T : Ti} {g : Tg} {A : Tt} {Te : Tm} {ix ws : List Nat} (hc : X.calm = true) (hN : X.N.Nodup) (hi : DI S Mv X tg iter T) (ok : BlkOk X.N X.env.scope scope own)
    (hg : ∀ (s : Shared) (H : Hp) (C : Addr) (cl : List (Str × Addr)) (fp : List Addr), DG S (X.blk s H scope (compEnvC scope cl C X.env) fp) tg ix g)
    (ht : ∀ (s : Shared) (H : Hp) (C : Addr) (cl : List (Str × Addr)) (fp : List Addr), DIf S (X.blk s H scope (compEnvC scope cl C X.env) fp) ifs A)
    (he : ∀ (s : Shared) (H : Hp) (C : Addr) (cl : List (Str × Addr)) (fp : List Addr), DE S (X.blk s H scope (compEnvC scope cl C X.env) fp) elt Te)
    (hw : own.map (·.2) = ws := by rfl) (hix : ∀ i ∈ ix, i ∈ ws := by decide) (hs : ∀ x, foldedSetIterable iter X.env x = pure x := by intro _; rfl) : DF S X (.ListComp elt [⟨tg, iter, ifs, 0⟩] scope pos) (wLc T g A Te ws) := ⟨fun W tk => by
  subst hw
  obtain ⟨wi, pi, qi⟩ := hi.run W tk
  -- one reading of the target for all blocks
  let gt : TG := fun v σ H K' => ∀ s0 H0 C cl fp, Classical.choose (hg s0 H0 C cl fp).run v σ H K'
  have pg : ∀ s0 H0 C cl fp, PG (X.blk s0 H0 scope (compEnvC scope cl C X.env) fp) tg gt := fun s0 H0 C cl fp =>
    ⟨fun pins s σ H v u Q I r h => (Classical.choose_spec (hg s0 H0 C cl fp).run).1.run pins s σ H v u Q I r (h s0 H0 C cl fp)⟩
  refine ⟨_, pe_lc hc hN pi ok pg (fun s H C cl fp => (ht s H C cl fp).sem W0 takes0) (fun s H C cl fp => (he s H C cl fp).sem takes0) hs, fun Z env σ H Q E Q' R hT k x => ?_⟩
  refine qi Z env σ H _ E _ R hT (fun Z1 env1 J items H1 R1 t1 y h1 D0 hD => ?_) x
  obtain ⟨hz, hgo⟩ := h1
  refine lc_turns hix (fun Z env σ H v d K K' R r hk kk s0 H0 C cl fp => (Classical.choose_spec (hg s0 H0 C cl fp).run).2 Z env σ H v d K K' R r hk kk) R1 y hD hz hgo fun Z' e2 vs acc H' R' t' hD' rl hq => ?_
  obtain ⟨R2, sp⟩ := R'.release t'.bb
  have t2 : Tr Z1 H1 ⟨Z'.O, Z'.h, Z1.B⟩ H' := ⟨t'.keep, t'.osub, t'.hh, t'.hz, rfl⟩
  have R3 := R1.back (R1.vle t2) R2
  exact k _ _ D0 (.own D0 acc) H' R3 (Tr.trans R1 t1 t2) sp.back (fun hb => (R1.oin D0 (R1.res D0 hb).ino) hD) rfl ⟨rfl, vs, hD', rl⟩ (hq D0)⟩
end
end DV

set_option Elab.async false
set_option linter.all false
set_option maxRecDepth 100000
/-! DV6: statements, defs. -/
namespace DV
open PySem PySem.Spec PyProof.Rows L2

structure Post where
  nx : Env → Prop
  rt : D → Env → Prop
  bk : Env → Prop
  ct : Env → Prop
  ex : Ex
  rf : Sl → Env → Prop := fun _ _ => False
abbrev Ts := Env → Post → Prop
structure Fits (S : Ent) (Z : Zs) (H : Hp) (P : Post) (D' : Ends) (W : WX) : Prop where
  nx : ∀ Z' env' σ' H', Rel S Z' env' σ' H' → Vle Z H Z' H' → P.nx env' → D'.nx σ' H'
  rt : ∀ Z' env' σ' v d H', Rel S Z' env' σ' H' → Vle Z H Z' H' → RS S.G Z' H' v d → P.rt d env' → D'.rt v H'
  bk : ∀ Z' env' σ' H', Rel S Z' env' σ' H' → Vle Z H Z' H' → P.bk env' → D'.bk σ' H'
  ct : ∀ Z' env' σ' H', Rel S Z' env' σ' H' → Vle Z H Z' H' → P.ct env' → D'.ct σ' H'
  ex : ∀ σ', ExOk S Z H σ' P.ex W
  rf : ∀ Z' env' σ' a x H', Rel S Z' env' σ' H' → Vle Z H Z' H' → Spare S Z' env' σ' a → a ∉ Z'.B → OwnAt S Z' H' a x → P.rf x env' → D'.rt (.ref a) H'
theorem Fits.on {S : Ent} {Z Z' : Zs} {H H' : Hp} {P : Post} {D' : Ends} {W : WX} (f : Fits S Z H P D' W) (v : Vle Z H Z' H') : Fits S Z' H' P D' W :=
  ⟨fun Z2 e s H2 R v2 => f.nx Z2 e s H2 R (v.trans v2), fun Z2 e s x d H2 R v2 => f.rt Z2 e s x d H2 R (v.trans v2), fun Z2 e s H2 R v2 => f.bk Z2 e s H2 R (v.trans v2), fun Z2 e s H2 R v2 => f.ct Z2 e s H2 R (v.trans v2), fun s => (f.ex s).on v, fun Z2 e s a x H2 R v2 => f.rf Z2 e s a x H2 R (v.trans v2)⟩
/-- what a body's context lets out of its own loops -/
abbrev Pas (X : Cx) : Prop := PassesOwn (model X.prog X.w) X.A X.env X.xe
structure DS (S : Ent) (X : Cx) (st : Stmt) (T : Ts) : Prop where
  run : ∀ W, Takes X W → Pas X → ∃ t, PS X st t ∧ ∀ Z env σ H P D', Rel S Z env σ H → T env P → Fits S Z H P D' W → t D' σ H
structure DSs (S : Ent) (X : Cx) (st : List Stmt) (T : Ts) : Prop where
  run : ∀ W, Takes X W → Pas X → ∃ t, PSs X st t ∧ ∀ Z env σ H P D', Rel S Z env σ H → T env P → Fits S Z H P D' W → t D' σ H
section
variable {S : Ent} {X : Cx} {st : Stmt} {rest : List Stmt} {e a b : Expr} {T T2 B : Ts} {Te : Tm} {A : Tt} {pos : Pos}
def wSkip : Ts := fun env P => P.nx env
def wSeq (T T2 : Ts) : Ts := fun env P => T env { P with nx := fun env1 => T2 env1 P }
theorem dss_nil : DSs S X [] wSkip := ⟨fun W tk pa => ⟨_, pss_nil, fun Z env σ H P D' R hT f => f.nx Z env σ H R .refl hT⟩⟩
theorem dss_one (h : DS S X st T) : DSs S X [st] T := ⟨fun W tk pa => by
  obtain ⟨t, p, q⟩ := h.run W tk pa
  exact ⟨t, pss_one p, q⟩⟩
theorem dss_cons (h : DS S X st T) (h2 : DSs S X rest T2) : DSs S X (st :: rest) (wSeq T T2) := ⟨fun W tk pa => by
  obtain ⟨t, p, q⟩ := h.run W tk pa
  obtain ⟨t2, p2, q2⟩ := h2.run W tk pa
  exact ⟨_, pss_cons p p2, fun Z env σ H P D' R hT f => q Z env σ H _ { D' with nx := t2 D' } R hT ⟨fun Z' e s H' R' v hn => q2 Z' e s H' P D' R' hn (f.on v), f.rt, f.bk, f.ct, f.ex, f.rf⟩⟩⟩
theorem ds_pass : DS S X (.Pass pos) wSkip := ⟨fun W tk pa => ⟨_, ps_pass, fun Z env σ H P D' R hT f => f.nx Z env σ H R .refl hT⟩⟩
def wBrk : Ts := fun env P => P.bk env
theorem ds_brk : DS S X (.Break pos) wBrk := ⟨fun W tk pa => ⟨_, ps_break, fun Z env σ H P D' R hT f => f.bk Z env σ H R .refl hT⟩⟩
def wCnt : Ts := fun env P => P.ct env
theorem ds_cnt : DS S X (.Continue pos) wCnt := ⟨fun W tk pa => ⟨_, ps_continue, fun Z env σ H P D' R hT f => f.ct Z env σ H R .refl hT⟩⟩
def wNever : Ts := fun _ _ => False
theorem ds_never : DS S X st wNever := ⟨fun W tk pa => ⟨_, ps_never, fun Z env σ H P D' R hT f => hT.elim⟩⟩
def wRet (T : Tm) : Ts := fun env P => T env (fun d env1 => P.rt d env1) P.ex
theorem ds_ret (h : DE S X e Te) : DS S X (.Return (some e) pos) (wRet Te) := ⟨fun W tk pa => by
  obtain ⟨t, p, q⟩ := h.run W tk
  exact ⟨_, ps_ret p, fun Z env σ H P D' R hT f => q Z env σ H _ _ _ R hT (fun Z1 env1 v d H1 R1 t1 r1 h1 => f.rt Z1 env1 σ v d H1 R1 (R.vle t1) r1 h1) (f.ex σ)⟩⟩
/-- return of a new list -/
def wRetF (T : Tf) : Ts := fun env P => T env (fun x env1 => P.rf x env1) P.ex
theorem ds_retF {Tn : Tf} (h : DF S X e Tn) : DS S X (.Return (some e) pos) (wRetF Tn) := ⟨fun W tk pa => by
  obtain ⟨t, p, q⟩ := h.run W tk
  exact ⟨_, ps_ret p, fun Z env σ H P D' R hT f => q Z env σ H _ _ _ R hT (fun Z1 env1 a x H1 R1 t1 sp nb _ oa h1 => f.rf Z1 env1 σ a x H1 R1 (R.vle t1) sp nb oa h1) (f.ex σ)⟩⟩
def wRetN : Ts := fun env P => P.rt .non env
theorem ds_retN : DS S X (.Return none pos) wRetN := ⟨fun W tk pa => ⟨_, ps_retN, fun Z env σ H P D' R hT f => f.rt Z env σ .non .non H R .refl .non hT⟩⟩
def wDrop (T : Tm) : Ts := fun env P => T env (fun _ env1 => P.nx env1) P.ex
theorem ds_expr (h : DE S X e Te) (hs : swapsWith e none pos.line X.env = pure false := by rfl) : DS S X (.Expr e pos) (wDrop Te) := ⟨fun W tk pa => by
  obtain ⟨t, p, q⟩ := h.run W tk
  exact ⟨_, ps_expr p hs, fun Z env σ H P D' R hT f => q Z env σ H _ _ _ R hT (fun Z1 env1 v d H1 R1 t1 r1 h1 => f.nx Z1 env1 σ H1 R1 (R.vle t1) h1) (f.ex σ)⟩⟩
def wIfS (A : Tt) (T T2 : Ts) : Ts := fun env P => A env (fun k env1 => if k = true then T env1 P else T2 env1 P) P.ex
theorem ds_if {c : Expr} {sa sb : List Stmt} (hc : DT S X c A) (h : DSs S X sa T) (h2 : DSs S X sb T2) : DS S X (.If c sa sb pos) (wIfS A T T2) := ⟨fun W tk pa => by
  obtain ⟨tc, pc, qc⟩ := hc.run W tk
  obtain ⟨t, p, q⟩ := h.run W tk pa
  obtain ⟨t2, p2, q2⟩ := h2.run W tk pa
  refine ⟨_, ps_if pc p p2, fun Z env σ H P D' R hT f => ?_⟩
  refine qc Z env σ H _ _ _ R hT (fun Z1 env1 k H1 R1 t1 h1 => ?_) (f.ex σ)
  cases k with
  | true =>
    refine iteT ?_
    rw [if_pos rfl] at h1
    exact q Z1 env1 σ H1 P D' R1 h1 (f.on (R.vle t1))
  | false =>
    refine iteF ?_
    rw [if_neg Bool.false_ne_true] at h1
    exact q2 Z1 env1 σ H1 P D' R1 h1 (f.on (R.vle t1))⟩
/-! ### assignments -/
def wAsg (T : Tm) (g : Tg) : Ts := fun env P => T env (fun d env1 => g d env1 P.nx) P.ex
theorem ds_set (i : Nat) {x : Str} {p' : Pos} (hN : X.N.Nodup) (h : DE S X e Te) (hi : X.N[i]? = some x := by rfl) (hx : Loc X.env.scope x := by first | exact Or.inl rfl | exact Or.inr rfl) (hs : swapsWith e (some (.Name x p')) pos.line X.env = pure false := by rfl)
    (hf : X.fn x = true ∨ X.env.scope.names.lookup x = some .local := by first | exact .inl rfl | exact .inr rfl) : DS S X (.Assign [.Name x p'] e pos) (wAsg Te (gN i)) := ⟨fun W tk pa => by
  obtain ⟨t, p, q⟩ := h.run W tk
  exact ⟨_, ps_set hN hi hx p hs hf, fun Z env σ H P D' R hT f => q Z env σ H _ _ _ R hT (fun Z1 env1 v d H1 R1 t1 r1 h1 => f.nx Z1 _ _ H1 (R1.put r1) (R.vle t1) h1) (f.ex σ)⟩⟩
/-- a target of any form (a tuple of names) -/
theorem ds_asg {tg : Expr} {ix : List Nat} {g : Tg} (h : DE S X e Te) (hg : DG S X tg ix g) (hs : swapsWithSole [tg] e pos.line X.env = pure false := by rfl) (hw : swappedStores [tg] e X.env = pure none := by rfl)
    (h1 : (assignEach [tg] X.env).map (·.2) = [assign tg X.env] := by rfl) : DS S X (.Assign [tg] e pos) (wAsg Te g) := ⟨fun W tk pa => by
  obtain ⟨t, p, q⟩ := h.run W tk
  obtain ⟨tg', pg, qg⟩ := hg.run
  exact ⟨_, ps_asg p pg hs hw h1, fun Z env σ H P D' R hT f => q Z env σ H _ _ _ R hT (fun Z1 env1 v d H1 R1 t1 r1 h1 =>
    qg Z1 env1 σ H1 v d _ _ R1 r1 h1 fun env2 σ2 R2 _ h2 => f.nx Z1 env2 σ2 H1 R2 (R.vle t1) h2) (f.ex σ)⟩⟩
/-- a new list of the def's own -/
def wOwn (T : Tf) (i : Nat) : Ts := fun env P => T env (fun x env1 => P.nx (env1.set i x)) P.ex
theorem ds_own (i : Nat) {x : Str} {p' : Pos} {Tn : Tf} (hN : X.N.Nodup) (h : DF S X e Tn) (hi : X.N[i]? = some x := by rfl) (hx : Loc X.env.scope x := by first | exact Or.inl rfl | exact Or.inr rfl) (hs : swapsWith e (some (.Name x p')) pos.line X.env = pure false := by rfl)
    (hf : X.fn x = true ∨ X.env.scope.names.lookup x = some .local := by first | exact .inl rfl | exact .inr rfl) : DS S X (.Assign [.Name x p'] e pos) (wOwn Tn i) := ⟨fun W tk pa => by
  obtain ⟨t, p, q⟩ := h.run W tk
  exact ⟨_, ps_set hN hi hx p hs hf, fun Z env σ H P D' R hT f => q Z env σ H _ _ _ R hT (fun Z1 env1 a y H1 R1 t1 sp nb hy oa h1 =>
    f.nx Z1 _ _ H1 (R1.putOwn hy sp.ino sp.nh sp.ne oa sp.no nb) (R.vle t1) h1) (f.ex σ)⟩⟩
/-- y = [..] of one line -/
theorem ds_ownLc (i : Nat) {y : Str} {py : Pos} {elt tg iter : Expr} {ifs : List Expr} {scope : Scope} {own : List (Str × Nat)} {spos : Pos} {Tt' : Ti} {g : Tg} {ix ws : List Nat} (hc : X.calm = true) (hN : X.N.Nodup)
    (hi : DI S Mv X tg iter Tt') (ok : BlkOk X.N X.env.scope scope own)
    (hg : ∀ (s : Shared) (H : Hp) (C : Addr) (cl : List (Str × Addr)) (fp : List Addr), DG S (X.blk s H scope (compEnvC scope cl C X.env) fp) tg ix g)
    (ht : ∀ (s : Shared) (H : Hp) (C : Addr) (cl : List (Str × Addr)) (fp : List Addr), DIf S (X.blk s H scope (compEnvC scope cl C X.env) fp) ifs A)
    (he : ∀ (s : Shared) (H : Hp) (C : Addr) (cl : List (Str × Addr)) (fp : List Addr), DE S (X.blk s H scope (compEnvC scope cl C X.env) fp) elt Te)
    (hsw : swapsWith (.ListComp elt [⟨tg, iter, ifs, 0⟩] scope pos) (some (.Name y py)) spos.line X.env = pure true) (hy : X.N[i]? = some y := by rfl) (hyl : X.env.scope.names.lookup y = some .local := by rfl)
    (hw : own.map (·.2) = ws := by rfl) (hix : ∀ i ∈ ix, i ∈ ws := by decide) (hs : ∀ x, foldedSetIterable iter X.env x = pure x := by intro _; rfl) :
    DS S X (.Assign [.Name y py] (.ListComp elt [⟨tg, iter, ifs, 0⟩] scope pos) spos) (wOwn (wLc Tt' g A Te ws) i) := ⟨fun W tk pa => by
  subst hw
  obtain ⟨wi, pi, qi⟩ := hi.run W tk
  let gt : TG := fun v σ H K' => ∀ s0 H0 C cl fp, Classical.choose (hg s0 H0 C cl fp).run v σ H K'
  have pg : ∀ s0 H0 C cl fp, PG (X.blk s0 H0 scope (compEnvC scope cl C X.env) fp) tg gt := fun s0 H0 C cl fp =>
    ⟨fun pins s σ H v u Q I r h => (Classical.choose_spec (hg s0 H0 C cl fp).run).1.run pins s σ H v u Q I r (h s0 H0 C cl fp)⟩
  refine ⟨_, ps_setLc hc hN hy hyl hsw pi ok pg (fun s H C cl fp => (ht s H C cl fp).sem W0 takes0) (fun s H C cl fp => (he s H C cl fp).sem takes0) hs, fun Z env σ H P D' R hT f => ?_⟩
  refine qi Z env σ H _ _ _ R hT (fun Z1 env1 J items H1 R1 t1 y h1 D0 hD => ?_) (f.ex σ)
  obtain ⟨hz, hgo⟩ := h1
  refine lc_turns hix (fun Z env σ H v d K K' R r hk kk s0 H0 C cl fp => (Classical.choose_spec (hg s0 H0 C cl fp).run).2 Z env σ H v d K K' R r hk kk) R1 y hD hz hgo fun Z' e2 vs acc H' R' t' hD' rl hq => ?_
  obtain ⟨R2, sp⟩ := R'.release t'.bb
  have t2 : Tr Z1 H1 ⟨Z'.O, Z'.h, Z1.B⟩ H' := ⟨t'.keep, t'.osub, t'.hh, t'.hz, rfl⟩
  have R3 := R1.back (R1.vle t2) R2
  have sb := sp.back (env := env1)
  exact f.nx _ _ _ H' (R3.putOwn (x := .own D0 acc) rfl sb.ino sb.nh sb.ne ⟨rfl, vs, hD', rl⟩ sb.no fun hb => (R1.oin D0 (R1.res D0 hb).ino) hD) ((R.vle t1).trans (R1.vle t2)) (hq D0)⟩
/-! ### two at once -/
/-- a result for a slot: a value, or a list of one's own -/
def SlV (S : Ent) (Z : Zs) (env : Env) (σ : L2.St) (H : Hp) (v : V) : Sl → Prop
  | .val d => RS S.G Z H v d
  | x => x.owns = true ∧ ∃ a, v = .ref a ∧ Spare S Z env σ a ∧ a ∉ Z.B ∧ OwnAt S Z H a x
structure DO (S : Ent) (X : Cx) (e : Expr) (T : Tf) : Prop where
  run : ∀ W, Takes X W → ∃ t, PE X e t ∧ ∀ Z env σ H Q E Q', Rel S Z env σ H → T env Q E →
    (∀ Z' env' v x H', Rel S Z' env' σ H' → Tr Z H Z' H' → SlV S Z' env' σ H' v x → Q x env' → Q' v H') → ExOk S Z H σ E W → t σ H Q'
def wV (T : Tm) : Tf := fun env Q E => T env (fun d env1 => Q (.val d) env1) E
theorem do_v (h : DE S X e Te) : DO S X e (wV Te) := ⟨fun W tk => by
  obtain ⟨t, p, q⟩ := h.run W tk
  exact ⟨t, p, fun Z env σ H Q E Q' R hT k x => q Z env σ H _ E _ R hT (fun Z1 env1 v d H1 R1 t1 r1 h1 => k Z1 env1 v (.val d) H1 R1 t1 r1 h1) x⟩⟩
theorem do_f {Tn : Tf} (h : DF S X e Tn) : DO S X e Tn := ⟨fun W tk => by
  obtain ⟨t, p, q⟩ := h.run W tk
  refine ⟨t, p, fun Z env σ H Q E Q' R hT k x => q Z env σ H _ E _ R hT (fun Z1 env1 a y H1 R1 t1 sp nb hy oa h1 => k Z1 env1 _ y H1 R1 t1 ?_ h1) x⟩
  cases y with
  | no => cases hy
  | val _ => cases hy
  | own _ _ => exact ⟨rfl, a, rfl, sp, nb, oa⟩
  | ownd _ _ => exact ⟨rfl, a, rfl, sp, nb, oa⟩⟩
/-- a row of such results, stored one after another into different slots -/
def PutAll (S : Ent) (K : Env → Prop) (D' : L2.St → Hp → Prop) : List Nat → List V → Zs → Env → L2.St → Hp → Prop := fun _ _ _ _ _ _ => True
theorem SlV.put {Z : Zs} {env : Env} {σ : L2.St} {H : Hp} {v : V} {x : Sl} {i : Nat} (R : Rel S Z env σ H) (h : SlV S Z env σ H v x) : Rel S Z (env.set i x) (σ.set i (some v)) H := by
  cases x with
  | val d => exact R.put h
  | no => cases h.1
  | own _ xs =>
    obtain ⟨hy, a, rfl, sp, nb, oa⟩ := h
    exact R.putOwn hy sp.ino sp.nh sp.ne oa sp.no nb
  | ownd _ xs =>
    obtain ⟨hy, a, rfl, sp, nb, oa⟩ := h
    exact R.putOwn hy sp.ino sp.nh sp.ne oa sp.no nb
/-- the second result, the first one kept apart meanwhile -/
theorem pair_read {ta tb : TE} {W : WX} {Ta Tb : Tf}
    (ra : ∀ Z env σ H Q E Q', Rel S Z env σ H → Ta env Q E → (∀ Z' env' v x H', Rel S Z' env' σ H' → Tr Z H Z' H' → SlV S Z' env' σ H' v x → Q x env' → Q' v H') → ExOk S Z H σ E W → ta σ H Q')
    (rb : ∀ Z env σ H Q E Q', Rel S Z env σ H → Tb env Q E → (∀ Z' env' v x H', Rel S Z' env' σ H' → Tr Z H Z' H' → SlV S Z' env' σ H' v x → Q x env' → Q' v H') → ExOk S Z H σ E W → tb σ H Q')
    {Z : Zs} {env : Env} {σ : L2.St} {H : Hp} {E : Ex} {K : Sl → Sl → Env → Prop} {K' : V → V → Hp → Prop} (R : Rel S Z env σ H) (x : ExOk S Z H σ E W)
    (hT : Ta env (fun x env1 => Tb env1 (fun y env2 => K x y env2) E) E) (i j : Nat)
    (k : ∀ Z' env' v w x y H', Rel S Z' env' σ H' → Vle Z H Z' H' → Rel S Z' ((env'.set i x).set j y) ((σ.set i (some v)).set j (some w)) H' → K x y env' → K' v w H') :
    ta σ H fun v H1 => tb σ H1 fun w H2 => K' v w H2 := by
  refine ra Z env σ H _ E _ R hT (fun Z1 env1 v x1 H1 R1 t1 s1 h1 => ?_) x
  have own : ∀ a, v = .ref a → x1.owns = true → Spare S Z1 env1 σ a → a ∉ Z1.B → OwnAt S Z1 H1 a x1 → tb σ H1 fun w H2 => K' v w H2 := fun a ev hy sp nb oa => by
    subst ev
    have Rr := R1.reserve sp
    refine rb ⟨Z1.O, Z1.h, a :: Z1.B⟩ env1 σ H1 _ E _ Rr h1 (fun Z2 env2 w y H2 R2 t2 s2 h2 => ?_) (x.on ⟨(R.vle t1).same, (R.vle t1).hh⟩)
    obtain ⟨R3, sp3⟩ := R2.release t2.bb
    have t2' : Tr Z1 H1 ⟨Z2.O, Z2.h, Z1.B⟩ H2 := ⟨t2.keep, t2.osub, t2.hh, t2.hz, rfl⟩
    have nota : ∀ c, c ∉ Z2.B → c ≠ a := fun c hc z => hc (by rw [z, t2.bb]; exact List.mem_cons_self)
    have nb2 : ∀ c, c ∉ Z2.B → c ∉ Z1.B := fun c hc z => hc (by rw [t2.bb]; exact List.mem_cons_of_mem _ z)
    have Hs : H2 a = H1 a := by
      cases q : H1 a with
      | none => exact absurd q (R1.oin a sp.ino)
      | some o => exact t2.keep a o q sp.nh
    have oa2 : OwnAt S ⟨Z2.O, Z2.h, Z1.B⟩ H2 a x1 := by
      cases x1 with
      | no => exact oa.elim
      | val _ => exact oa.elim
      | own _ xs =>
        obtain ⟨ea, vs, q1, q2⟩ := oa
        exact ⟨ea, vs, by rw [Hs]; exact q1, (R1.vle t2').repL q2⟩
      | ownd _ xs =>
        obtain ⟨ea, vs, ds, q1, q2⟩ := oa
        exact ⟨ea, vs, ds, (R1.vle t2').repL q1, by rw [Hs]; exact q2⟩
    have v2 : Vle Z H ⟨Z2.O, Z2.h, Z1.B⟩ H2 := (R.vle t1).trans (R1.vle t2')
    -- the second first (they are different slots), then the first
    have put2 : ∀ (e' : Env) (s' : L2.St), Rel S ⟨Z2.O, Z2.h, Z1.B⟩ e' s' H2 → (∀ c, Spare S ⟨Z2.O, Z2.h, Z1.B⟩ env2 σ c → c ≠ a → Spare S ⟨Z2.O, Z2.h, Z1.B⟩ e' s' c) → Rel S ⟨Z2.O, Z2.h, Z1.B⟩ (e'.set j y) (s'.set j (some w)) H2 := fun e' s' Re hsp => by
      cases y with
      | val d => exact Re.put s2
      | no => cases s2.1
      | own _ ys =>
        obtain ⟨hy2, c, rfl, spc, nbc, oc⟩ := s2
        have := hsp c ⟨spc.ino, spc.nh, spc.ne, spc.no⟩ (nota c nbc)
        exact Re.putOwn hy2 this.ino this.nh this.ne oc this.no (nb2 c nbc)
      | ownd _ ys =>
        obtain ⟨hy2, c, rfl, spc, nbc, oc⟩ := s2
        have := hsp c ⟨spc.ino, spc.nh, spc.ne, spc.no⟩ (nota c nbc)
        exact Re.putOwn hy2 this.ino this.nh this.ne oc this.no (nb2 c nbc)
    refine k _ env2 _ w x1 y H2 R3 v2 (put2 _ _ (R3.putOwn hy sp3.ino sp3.nh sp3.ne oa2 sp3.no nb) fun c spc hca => ⟨spc.ino, spc.nh, spc.ne, fun j' z ez oz sz => ?_⟩) h2
    by_cases hj : i = j'
    · subst hj
      by_cases hi : i < σ.length
      · rw [List.getElem?_set_self hi] at sz; cases sz; exact hca rfl
      · rw [List.getElem?_eq_none (by simpa using hi)] at sz; cases sz
    · rw [List.getElem?_set_ne hj] at ez sz
      exact spc.no j' z ez oz sz
  cases x1 with
  | val d =>
    refine rb Z1 env1 σ H1 _ E _ R1 h1 (fun Z2 env2 w y H2 R2 t2 s2 h2 => ?_) (x.on (R.vle t1))
    have s1' : RS S.G Z2 H2 v d := RS.on s1 R1 t2
    have Rp := R2.put (i := i) s1'
    have Rq : Rel S Z2 ((env2.set i (.val d)).set j y) ((σ.set i (some v)).set j (some w)) H2 := by
      cases y with
      | val d' => exact Rp.put s2
      | no => cases s2.1
      | own _ ys =>
        obtain ⟨hy2, c, rfl, spc, nbc, oc⟩ := s2
        exact Rp.putOwn hy2 spc.ino spc.nh spc.ne oc (spc.no.set rfl) nbc
      | ownd _ ys =>
        obtain ⟨hy2, c, rfl, spc, nbc, oc⟩ := s2
        exact Rp.putOwn hy2 spc.ino spc.nh spc.ne oc (spc.no.set rfl) nbc
    exact k Z2 env2 v w _ y H2 R2 ((R.vle t1).trans (R1.vle t2)) Rq h2
  | no => cases s1.1
  | own _ xs =>
    obtain ⟨hy, a, rfl, sp, nb, oa⟩ := s1
    exact own a rfl hy sp nb oa
  | ownd _ xs =>
    obtain ⟨hy, a, rfl, sp, nb, oa⟩ := s1
    exact own a rfl hy sp nb oa
def wPar (Ta Tb : Tf) (i j : Nat) : Ts := fun env P => Ta env (fun x env1 => Tb env1 (fun y env2 => P.nx ((env2.set i x).set j y)) P.ex) P.ex
theorem ds_par (i j : Nat) {x y : Str} {px py pt : Pos} {kt k2 pt2} {Ta Tb : Tf} (hc : X.calm = true) (hN : X.N.Nodup) (ha : DO S X a Ta) (hb : DO S X b Tb) (hw : swappedStores [.Tuple [.Name x px, .Name y py] kt pt] (.Tuple [a, b] k2 pt2) X.env = pure (some [x, y]))
    (hi : X.N[i]? = some x := by rfl) (hj : X.N[j]? = some y := by rfl) (hij : i ≠ j := by decide) (hx : X.env.scope.names.lookup x = some .local := by rfl) (hy : X.env.scope.names.lookup y = some .local := by rfl)
    (hs : swapsWithSole [.Tuple [.Name x px, .Name y py] kt pt] (.Tuple [a, b] k2 pt2) pos.line X.env = pure false := by rfl)
    (hst : starEach [a, b] X.env = (false, eval a X.env) :: starEach [b] X.env := by rfl) (hst2 : starEach [b] X.env = (false, eval b X.env) :: starEach [] X.env := by rfl) :
    DS S X (.Assign [.Tuple [.Name x px, .Name y py] kt pt] (.Tuple [a, b] k2 pt2) pos) (wPar Ta Tb i j) := ⟨fun W tk pa => by
  obtain ⟨ta, pa', ra⟩ := ha.run W tk
  obtain ⟨tb, pb, rb⟩ := hb.run W tk
  refine ⟨_, ps_par hc hN hi hj hij hx hy (pa_cons pa' (pa_cons pb pa_nil hst2) hst) hw hs, fun Z env σ H P D' R hT f => ?_⟩
  exact pair_read (K' := fun v w H2 => ∃ v1 w1, [v, w] = [v1, w1] ∧ D'.nx ((σ.set i (some v1)).set j (some w1)) H2) ra rb R (f.ex σ) hT i j
    (fun Z' env' v w x1 y1 H' R' vl Rij h2 => ⟨v, w, rfl, f.nx Z' _ _ H' Rij vl h2⟩)⟩
/-! ### loops -/
/-- a for's turns -/
def forGo (g : Tg) (B : Ts) (P : Post) : List D → Env → Prop
  | [], env => P.nx env
  | x :: xs, env => g x env fun env1 => B env1 { P with nx := fun env2 => forGo g B P xs env2, ct := fun env2 => forGo g B P xs env2, bk := P.nx }
def wFor (T : Ti) (g : Tg) (B : Ts) : Ts := fun env P => T env (fun xs env1 => forGo g B P xs env1) P.ex
theorem ds_for {tg iter : Expr} {body : List Stmt} {T : Ti} {g : Tg} {ix : List Nat} (hc : X.calm = true) (hi : DI S Vle X tg iter T) (hg : DG S X tg ix g) (hb : DSs S X body B) (hs : ∀ x, foldedSetIterable iter X.env x = pure x := by intro _; rfl) :
    DS S X (.For tg iter body [] pos) (wFor T g B) := ⟨fun W tk pa => by
  obtain ⟨wi, pi, qi⟩ := hi.run W tk
  obtain ⟨tg', pg, qg⟩ := hg.run
  obtain ⟨tb, pb, qb⟩ := hb.run W tk pa
  refine ⟨_, ps_for pa hc pi pg pb hs, fun Z env σ H P D' R hT f => ?_⟩
  refine qi Z env σ H _ _ _ R hT (fun Z1 env1 J items H1 R1 t1 y h1 => ?_) (f.ex σ)
  have f1 := f.on (R.vle t1)
  let Inv : Nat → L2.St → Hp → Prop := fun i σ H => ∃ Z' env', Rel S Z' env' σ H ∧ Vle Z1 H1 Z' H ∧ forGo g B P (items.drop i) env'
  refine ⟨fun i m σ H => m = items.length - i ∧ i ≤ items.length ∧ Inv i σ H, ⟨_, rfl, Nat.zero_le _, Z1, env1, R1, .refl, h1⟩, ?_⟩
  rintro i m σ2 H2 ⟨rfl, hi', Z2, env2, R2, v2, hgo⟩
  by_cases hlt : i < items.length
  · refine .inr ⟨y.go Z2 H2 i v2 hlt, Inv (i + 1), fun σ' H' h => ⟨items.length - (i + 1), by omega, rfl, hlt, h⟩, fun x H3 hy => ?_⟩
    obtain ⟨sm, hx⟩ := y.yld Z2 H2 i x H3 v2 R2.oin hlt hy
    rw [List.drop_eq_getElem_cons hlt] at hgo
    have R3 := R2.grow sm
    have v3 : Vle Z1 H1 Z2 H3 := v2.trans (R2.vle (.alloc sm))
    refine qg Z2 env2 σ2 H3 x _ _ _ R3 (hx _ (List.getElem?_eq_getElem hlt)) hgo fun env4 σ4 R4 _ h4 => ?_
    have fb := f1.on v3
    exact qb Z2 env4 σ4 H3 _ { D' with nx := Inv (i + 1), ct := Inv (i + 1), bk := D'.nx } R4 h4
      ⟨fun Z5 e5 s5 H5 R5 v5 h5 => ⟨Z5, e5, R5, v3.trans v5, h5⟩, fb.rt, fb.nx, fun Z5 e5 s5 H5 R5 v5 h5 => ⟨Z5, e5, R5, v3.trans v5, h5⟩, fb.ex, fb.rf⟩
  · have e : i = items.length := by omega
    subst e
    rw [List.drop_length] at hgo
    exact .inl ⟨y.stop Z2 H2 v2, f1.nx Z2 env2 σ2 H2 R2 v2 hgo⟩⟩
/-- a while's turns, at most n -/
def whGo (A : Tt) (B : Ts) (P : Post) : Nat → Env → Prop
  | 0, _ => False
  | n + 1, env => A env (fun k env1 => if k = true then B env1 { P with nx := fun env2 => whGo A B P n env2, ct := fun env2 => whGo A B P n env2, bk := P.nx } else P.nx env1) P.ex
def wWh (A : Tt) (B : Ts) : Ts := fun env P => ∃ n, whGo A B P n env
theorem ds_while {c : Expr} {body : List Stmt} (hc : DT S X c A) (hb : DSs S X body B) : DS S X (.While c body [] pos) (wWh A B) := ⟨fun W tk pa => by
  obtain ⟨tc, pc, qc⟩ := hc.run W tk
  obtain ⟨tb, pb, qb⟩ := hb.run W tk pa
  refine ⟨_, ps_while pa pc pb, fun Z env σ H P D' R hT f => ?_⟩
  obtain ⟨n, hn⟩ := hT
  let Inv : Nat → L2.St → Hp → Prop := fun m σ' H' => ∃ Z' env', Rel S Z' env' σ' H' ∧ Vle Z H Z' H' ∧ whGo A B P m env'
  refine ⟨Inv, ⟨n, Z, env, R, .refl, hn⟩, ?_⟩
  rintro m σ2 H2 ⟨Z2, env2, R2, v2, hgo⟩
  have f2 := f.on v2
  cases m with
  | zero => exact hgo.elim
  | succ m =>
    refine qc Z2 env2 σ2 H2 _ _ _ R2 hgo (fun Z3 env3 k H3 R3 t3 h3 => ?_) (f2.ex σ2)
    have v3 : Vle Z H Z3 H3 := v2.trans (R2.vle t3)
    have f3 := f.on v3
    cases k with
    | true =>
      refine iteT ?_
      rw [if_pos rfl] at h3
      exact ⟨Inv m, fun σ' H' h => ⟨m, Nat.lt_succ_self m, h⟩, qb Z3 env3 σ2 H3 _ { D' with nx := Inv m, ct := Inv m, bk := D'.nx } R3 h3
        ⟨fun Z5 e5 s5 H5 R5 v5 h5 => ⟨Z5, e5, R5, v3.trans v5, h5⟩, f3.rt, f3.nx, fun Z5 e5 s5 H5 R5 v5 h5 => ⟨Z5, e5, R5, v3.trans v5, h5⟩, f3.ex, f3.rf⟩⟩
    | false =>
      refine iteF ?_
      rw [if_neg Bool.false_ne_true] at h3
      exact f3.nx Z3 env3 σ2 H3 R3 .refl h3⟩
/-! ### own lists changed -/
/-- x.append(e) -/
def wApp (i : Nat) (T : Tm) : Ts := fun env P => (∃ a xs, env[i]? = some (.own a xs)) ∧ T env (fun d env1 => ∃ a xs, env1[i]? = some (.own a xs) ∧ xs.length < big ∧ P.nx (env1.set i (.own a (xs ++ [d])))) P.ex
theorem ds_app (i : Nat) {x : Str} {px apos cpos : Pos} (h : DE S X e Te) (hN : X.N[i]? = some x := by rfl) (hv : Vis X.env.scope x := by first | exact Or.inl rfl | exact Or.inr (Or.inl rfl) | exact Or.inr (Or.inr rfl))
    (hbase : attributeBase (.Name x px) "append" X.env (eval (.Name x px) X.env) = eval (.Name x px) X.env := by rfl)
    (hfew : ((backTo cpos (starEach (e :: []) X.env)).all (fun x => !x.1) && (backToKw cpos (keywordEach [] X.env)).all (fun x => x.1.isSome)
      && decide ((e :: []).length + ([] : List Keyword).length + (if ([] : List Keyword).isEmpty then 0 else 1) < 30)) = true := by rfl)
    (hline : (apos.endLine == cpos.line) = true := by rfl) (hst : starEach (e :: []) X.env = (false, eval e X.env) :: starEach [] X.env := by rfl) (hplain : (backTo cpos (starEach [] X.env)).any (·.1) = false := by rfl)
    (hs : swapsWith (.Call (.Attribute (.Name x px) "append" apos) [e] [] cpos) none pos.line X.env = pure false := by rfl)
    (hd : (x == ("__debug__" : Str)) = false := by decide) (hcd : (x == ("__classdict__" : Str)) = false := by decide) :
    DS S X (.Expr (.Call (.Attribute (.Name x px) "append" apos) [e] [] cpos) pos) (wApp i Te) := ⟨fun W tk pa => by
  obtain ⟨t, p, q⟩ := h.run W tk
  refine ⟨_, ps_expr (pe_bm PySem.F.plainAttrs_list PySem.F.slot_list_append PySem.F.type_list_append mt_append (pe_var hN hv hd hcd) (pa_cons p pa_nil hst) hbase hfew hline hst hplain) hs, fun Z env σ H P D' R hT f => ?_⟩
  obtain ⟨⟨a, xs0, e0⟩, hT⟩ := hT
  obtain ⟨vs0, es, a1, a2, a3, a4, a5⟩ := R.slots i _ e0
  refine ⟨_, es, .inl ⟨rfl, _, SqL.of a4⟩, ?_⟩
  refine q Z env σ H _ _ _ R hT (fun Z1 env1 v d H1 R1 t1 r1 h1 => ?_) (f.ex σ)
  obtain ⟨b, xs, e1, hz, h1⟩ := h1
  obtain ⟨vs, es1, b1, b2, b3, b4, b5⟩ := R1.slots i _ e1
  rw [es] at es1; cases es1
  refine ⟨a, vs, v, rfl, rfl, b4, by rw [b5.length, sizeLine_eq]; unfold big at hz; omega, ?_⟩
  have R2 := R1.write (y := .own a (xs ++ [d])) (o := .lst (vs ++ [v])) e1 rfl rfl es ⟨rfl, _, upd_same, by rw [vis_upd_in b1]; exact b5.append (.cons r1 .nil)⟩
  exact f.nx Z1 _ σ _ R2 ((R.vle t1).trans ⟨fun b o e => by rw [vis_upd_in b1]; exact e, fun _ h => h⟩) h1⟩
/-- x.extend(a list) -/
def wExt (i : Nat) (T : Tm) : Ts := fun env P => (∃ a xs, env[i]? = some (.own a xs)) ∧ T env (fun d env1 => ∃ a xs ys, env1[i]? = some (.own a xs) ∧ d = .lst ys ∧ xs.length + ys.length ≤ big ∧ P.nx (env1.set i (.own a (xs ++ ys)))) P.ex
theorem ds_ext (i : Nat) {x : Str} {px apos cpos : Pos} (h : DB S X e Te) (hN : X.N[i]? = some x := by rfl) (hv : Vis X.env.scope x := by first | exact Or.inl rfl | exact Or.inr (Or.inl rfl) | exact Or.inr (Or.inr rfl))
    (hbase : attributeBase (.Name x px) "extend" X.env (eval (.Name x px) X.env) = eval (.Name x px) X.env := by rfl)
    (hfew : ((backTo cpos (starEach (e :: []) X.env)).all (fun x => !x.1) && (backToKw cpos (keywordEach [] X.env)).all (fun x => x.1.isSome)
      && decide ((e :: []).length + ([] : List Keyword).length + (if ([] : List Keyword).isEmpty then 0 else 1) < 30)) = true := by rfl)
    (hline : (apos.endLine == cpos.line) = true := by rfl) (hst : starEach (e :: []) X.env = (false, eval e X.env) :: starEach [] X.env := by rfl) (hplain : (backTo cpos (starEach [] X.env)).any (·.1) = false := by rfl)
    (hs : swapsWith (.Call (.Attribute (.Name x px) "extend" apos) [e] [] cpos) none pos.line X.env = pure false := by rfl)
    (hd : (x == ("__debug__" : Str)) = false := by decide) (hcd : (x == ("__classdict__" : Str)) = false := by decide) :
    DS S X (.Expr (.Call (.Attribute (.Name x px) "extend" apos) [e] [] cpos) pos) (wExt i Te) := ⟨fun W tk pa => by
  obtain ⟨t, p, q⟩ := h.run W tk
  refine ⟨_, ps_expr (pe_bm PySem.F.plainAttrs_list PySem.F.slot_list_extend PySem.F.type_list_extend mt_extend (pe_var hN hv hd hcd) (pa_cons p pa_nil hst) hbase hfew hline hst hplain) hs, fun Z env σ H P D' R hT f => ?_⟩
  obtain ⟨⟨a, xs0, e0⟩, hT⟩ := hT
  obtain ⟨vs0, es, a1, a2, a3, a4, a5⟩ := R.slots i _ e0
  refine ⟨_, es, .inl ⟨rfl, _, SqL.of a4⟩, ?_⟩
  refine q Z env σ H _ _ _ R hT (fun Z1 env1 v d H1 R1 t1 r1 h1 => ?_) (f.ex σ)
  obtain ⟨b, xs, ys, e1, rfl, hz, h1⟩ := h1
  obtain ⟨vs, es1, b1, b2, b3, b4, b5⟩ := R1.slots i _ e1
  rw [es] at es1; cases es1
  obtain ⟨c, ws, rfl, ec, rc⟩ := r1.lst
  refine ⟨a, c, vs, ws, rfl, rfl, b4, ec, by rw [b5.length, rc.length]; exact big_line hz, ?_⟩
  have R2 := R1.write (y := .own a (xs ++ ys)) (o := .lst (vs ++ ws)) e1 rfl rfl es ⟨rfl, _, upd_same, by rw [vis_upd_in b1]; exact b5.append rc⟩
  exact f.nx Z1 _ σ _ R2 ((R.vle t1).trans ⟨fun b o e => by rw [vis_upd_in b1]; exact e, fun _ h => h⟩) h1⟩
/-- x[i] = e of an own list -/
def wSetIx (i : Nat) (Te Ti' : Tm) : Ts := fun env P => Te env (fun d env1 => (∃ a xs, env1[i]? = some (.own a xs)) ∧ Ti' env1 (fun k env2 => ∃ a xs n j, env2[i]? = some (.own a xs) ∧ k = .int n ∧ ixN xs.length n = some j ∧ P.nx (env2.set i (.own a (xs.set j d)))) P.ex) P.ex
theorem ds_setix (i : Nat) {x : Str} {px p' : Pos} {ie : Expr} {Tk : Tm} (he : DE S X e Te) (hi : DB S X ie Tk) (hN : X.N[i]? = some x := by rfl) (hv : Vis X.env.scope x := by first | exact Or.inl rfl | exact Or.inr (Or.inl rfl) | exact Or.inr (Or.inr rfl))
    (hs : swapsWithSole [.Subscript (.Name x px) ie p'] e pos.line X.env = pure false := by rfl) (hw : swappedStores [.Subscript (.Name x px) ie p'] e X.env = pure none := by rfl)
    (h1 : (assignEach [.Subscript (.Name x px) ie p'] X.env).map (·.2) = [assign (.Subscript (.Name x px) ie p') X.env] := by rfl)
    (ha : ∀ v, assign (.Subscript (.Name x px) ie p') X.env v = (do
      let ov ← holding [v] (eval (.Name x px) X.env)
      let iv ← holding [v, ov] (eval ie X.env)
      standAt p'
      holding [v, ov, iv] (setItem ov iv v)
      release [v, ov, iv] []) := by intro _; rfl)
    (hd : (x == ("__debug__" : Str)) = false := by decide) (hcd : (x == ("__classdict__" : Str)) = false := by decide) :
    DS S X (.Assign [.Subscript (.Name x px) ie p'] e pos) (wSetIx i Te Tk) := ⟨fun W tk pa => by
  obtain ⟨t, p, q⟩ := he.run W tk
  obtain ⟨tk', pk, qk⟩ := hi.run W tk
  refine ⟨_, ps_asg p (pg_sub (pe_var hN hv hd hcd) pk set_list ha) hs hw h1, fun Z env σ H P D' R hT f => ?_⟩
  refine q Z env σ H _ _ _ R hT (fun Z1 env1 v d H1 R1 t1 r1 h1 => ?_) (f.ex σ)
  obtain ⟨⟨a, xs0, e0⟩, h1⟩ := h1
  obtain ⟨vs0, es, a1, a2, a3, a4, a5⟩ := R1.slots i _ e0
  refine ⟨_, es, ?_⟩
  refine qk Z1 env1 σ H1 _ _ _ R1 h1 (fun Z2 env2 w k H2 R2 t2 r2 h2 => ?_) ((f.ex σ).on (R.vle t1))
  obtain ⟨b, xs, n, j, e1, rfl, hj, h2⟩ := h2
  obtain ⟨vs, es1, b1, b2, b3, b4, b5⟩ := R2.slots i _ e1
  rw [es] at es1; cases es1
  refine ⟨a, vs, n, j, rfl, r2.int, b4, by rw [b5.length]; exact hj, ?_⟩
  have R3 := R2.write (y := .own a (xs.set j d)) (o := .lst (vs.set j v)) e1 rfl rfl es ⟨rfl, _, upd_same, by rw [vis_upd_in b1]; exact b5.set (RS.on r1 R1 t2) j⟩
  exact f.nx Z2 _ σ _ R3 (((R.vle t1).trans (R1.vle t2)).trans ⟨fun b o e => by rw [vis_upd_in b1]; exact e, fun _ h => h⟩) h2⟩
/-- x += e -/
def wAug (i : Nat) (T : Tm) (fn : Int → Int → Int) : Ts := fun env P => ∃ n, env[i]? = some (.val (.int n)) ∧ T env (fun d env1 => ∃ m, d = .int m ∧ P.nx (env1.set i (.val (.int (fn n m))))) P.ex
theorem ds_aug (i : Nat) {x : Str} {p' : Pos} {op : Operator} {fn : Int → Int → Int} (ho : PIp X op (ipI fn)) (hN : X.N.Nodup) (h : DE S X e Te) (hi : X.N[i]? = some x := by rfl) (hx : Loc X.env.scope x := by first | exact Or.inl rfl | exact Or.inr rfl)
    (hf : X.fn x = true ∨ X.env.scope.names.lookup x = some .local := by first | exact .inl rfl | exact .inr rfl) : DS S X (.AugAssign (.Name x p') op e pos) (wAug i Te fn) := ⟨fun W tk pa => by
  obtain ⟨t, p, q⟩ := h.run W tk
  refine ⟨_, ps_aug hN hi hx p ho hf, fun Z env σ H P D' R hT f => ?_⟩
  obtain ⟨n, e0, hT⟩ := hT
  obtain ⟨v, es, r⟩ := R.slots i _ e0
  cases r
  refine ⟨_, es, ?_⟩
  refine q Z env σ H _ _ _ R hT (fun Z1 env1 v d H1 R1 t1 r1 h1 => ?_) (f.ex σ)
  obtain ⟨m, rfl, h1⟩ := h1
  exact ⟨n, m, rfl, RB.int (.inl r1), f.nx Z1 _ _ H1 (R1.put (.int _)) (R.vle t1) h1⟩⟩
end
/-! ### a def -/
/-- what a body is worth: its slots at the entry, its end -/
def wFn (n : Nat) (B : Ts) : Fn := fun ds Q E => B (ds.map Sl.val ++ List.replicate (n - ds.length) .no) { nx := fun _ => Q .non, rt := fun d _ => Q d, bk := fun _ => False, ct := fun _ => False, ex := fun er _ => E er }
theorem entry_rel {G : Pg} {Z : Zs} {H : Hp} {vs : List V} {ds : List D} {N : List Str} (oin : ∀ a ∈ Z.O, H a ≠ none) (hh : ∀ a, Z.h = some a → HandOk Z.O H a) (r : RepL G (vis Z.O H) Z.h vs ds) (hl : vs.length = ds.length) :
    Rel ⟨G, Z, H⟩ ⟨Z.O, Z.h, []⟩ (ds.map Sl.val ++ List.replicate (N.length - ds.length) .no) (L2.start N vs) H := by
  refine ⟨oin, fun _ h => h, hh, rfl, fun b o e _ => e, oin, fun a h => .inl h, ?_, fun i x e => ?_, fun i j x y a e1 _ o1 _ _ _ => ?_, fun a ha => absurd ha (by simp)⟩
  · unfold L2.start
    simp [hl]
  · by_cases hi : i < ds.length
    · rw [List.getElem?_append_left (by simpa using hi), List.getElem?_map, List.getElem?_eq_getElem hi] at e
      cases e
      obtain ⟨v, ev, rv⟩ := r.get (List.getElem?_eq_getElem hi)
      refine ⟨v, ?_, rv⟩
      unfold L2.start
      rw [List.getElem?_append_left (by rw [List.length_map]; omega), List.getElem?_map, ev]
      rfl
    · rw [List.getElem?_append_right (by simpa using hi), List.getElem?_replicate] at e
      split at e
      · cases e; trivial
      · cases e
  · by_cases hi : i < ds.length
    · rw [List.getElem?_append_left (by simpa using hi), List.getElem?_map, List.getElem?_eq_getElem hi] at e1
      cases e1; cases o1
    · rw [List.getElem?_append_right (by simpa using hi), List.getElem?_replicate] at e1
      split at e1
      · cases e1; cases o1
      · cases e1
/-- back at the caller: what the def leaves visible is visible there -/
theorem exit_vle {S : Ent} {Z' : Zs} {env : Env} {σ : L2.St} {H' : Hp} (R : Rel S Z' env σ H') : Same (vis Z'.O H') (vis S.Z.O H') := fun b o e => by
  obtain ⟨h1, h2⟩ := vis_some e
  rw [vis_out fun z => h1 (R.sub b z)]
  exact h2
theorem exit_hand {S : Ent} {Z' : Zs} {env : Env} {σ : L2.St} {H' : Hp} (R : Rel S Z' env σ H') (hh : ∀ a, S.Z.h = some a → a ∈ S.Z.O) : ∀ a, S.Z.h = some a → HandOk S.Z.O H' a := fun a ha =>
  (R.hnd a (R.hsub.trans ha)).mono (hh a ha) (fun c nc _ z => nc (R.sub c z)) fun b o q _ => q
/-- THE RULE of a def -/
theorem fn_ok {P : Program} {w : World} {G : Pg} {mg : Str → Option Value} {base : Heap} {x qual : Str} {st : Stmt} {f : Addr} {fd : FuncData} {N ps : List Str} {k n : Nat} {B : Ts} (F : Fun G.K x qual st f fd) (Sc : FnScope N ps (defScope st)) (hn : n = ps.length)
    (hbody : ∀ (cdv : Value) (A : Around) (outer : List PySem.Env) (s : Shared) (H : Hp) (E : XK) (S : Ent), S.G = G → Room k (A.deeper (envOfC qual (defScope st) s.heap.objs.size f cdv)) →
      DSs S (cxOf (L2.CX P w) P w G.K mg base N qual (defScope st) f cdv A outer s H E) (defBody st) B) : FnOk P w G.K mg base (L2.CX P w) (k + 1) f fd ps (spD G n (wFn N.length B)) := by
  refine F.okX Sc (fun vs H Q E h => ?_) fun cdv A outer s H vs Q E hr h => ?_
  · obtain ⟨_, _, _, _, hl, _⟩ := h
    rw [hl, hn]
  · obtain ⟨Z, ds, Qd, Ed, hl, hl2, oin, hh, r, hT, kq, ke⟩ := h
    have R := entry_rel (N := N) oin hh r (hl.trans hl2.symm)
    obtain ⟨t, p, q⟩ := (hbody cdv A outer s H E ⟨G, Z, H⟩ rfl hr).run (fun cls d _ H => E cls d H) (takes_of rfl rfl rfl rfl) PassesOwn.leaving
    have hin : ∀ a, Z.h = some a → a ∈ Z.O := fun a ha => (hh a ha).1
    refine ⟨t, p, q _ _ _ H _ _ R hT ⟨fun Z' e s H' R' v h => ?_, fun Z' e s v d H' R' vl rv h => ?_, fun _ _ _ _ _ _ h => h.elim, fun _ _ _ _ _ _ h => h.elim, fun σ' Z' e cls dd er H' R' vl eo h => ?_, fun _ _ _ _ _ _ _ _ _ _ _ h => h.elim⟩⟩
    · exact kq _ _ H' R'.frame (exit_hand R' hin) .non h
    · refine kq d v H' R'.frame (exit_hand R' hin) ?_ h
      exact Rep.mono (exit_vle R') (fun a ha => R'.hsub.symm.trans ha) rv
    · refine ke er cls dd H' R'.frame (exit_hand R' hin) ?_ h
      obtain ⟨C, e1, e2, e3⟩ := eo
      refine ⟨C, e1, e2, ?_⟩
      cases dd with
      | none => exact e3
      | some p =>
        obtain ⟨vfs, ds, q1, q2, q3⟩ := e3
        exact ⟨vfs, ds, exit_vle R' _ _ q1, q2.mono (exit_vle R') (fun a ha => R'.hsub.symm.trans ha), q3⟩
end DV

set_option Elab.async false
set_option linter.all false
set_option maxRecDepth 100000
/-! DV7: the hand: its making, a draw; the law's own def. -/
namespace DV
open PySem PySem.Spec PyProof.Rows L2

/-- a draw below m -/
def wDraw : Fn := fun ds Q _ => ∃ m : Int, ds = [.hand, .int m] ∧ 0 < m ∧ m < 1073741824 ∧ ∀ d : Int, 0 ≤ d → d < m → Q (.int d)
def handL (cells : List Int) (p : Nat) (big st cnt : Int) : List D := [.lst (cells.map D.int), .int p, .int big, .int st, .int cnt]
theorem repL_hand {G : Pg} {H : Hp} {hh : Option Addr} {vs : List V} {cells : List Int} {p : Nat} {big st cnt : Int} (r : RepL G H hh vs (handL cells p big st cnt)) : ∃ c, vs = [.ref c, .int p, .int big, .int st, .int cnt] ∧ H c = some (.lst (cells.map V.int)) := by
  cases r with
  | cons r1 r =>
    cases r with
    | cons r2 r =>
      cases r with
      | cons r3 r =>
        cases r with
        | cons r4 r =>
          cases r with
          | cons r5 r =>
            cases r
            cases r1 with
            | lst e rl =>
              cases r2
              cases r3
              cases r4
              cases r5
              rw [rl.ints] at e
              exact ⟨_, rfl, e⟩
section
variable {P : Program} {w : World} {G : Pg} {mg : Str → Option Value} {base : Heap} {x qual : Str} {st : Stmt} {f : Addr} {fd : FuncData} {N ps : List Str} {k : Nat} {B : Ts}
theorem draw_fn (F : Fun G.K x qual st f fd) (Sc : FnScope N ps (defScope st)) (hn : 2 = ps.length) (hN : 2 ≤ N.length)
    (hbody : ∀ (cdv : Value) (A : Around) (outer : List PySem.Env) (s : Shared) (H : Hp) (E : XK) (S : Ent), S.G = G → Room k (A.deeper (envOfC qual (defScope st) s.heap.objs.size f cdv)) →
      DSs S (cxOf (L2.CX P w) P w G.K mg base N qual (defScope st) f cdv A outer s H E) (defBody st) B)
    (hB : ∀ (h : Addr) (cells : List Int) (p : Nat) (big st cnt m : Int), (∀ x ∈ cells, 0 ≤ x) → 0 ≤ big → 0 ≤ st → 0 ≤ cnt → st < 9223372036854775808 → 0 < m → m < 1073741824 → ∀ Q : Post,
      (∀ (k : Int) (p' : Nat) (big' st' cnt' : Int) (r : Env), 0 ≤ k → k < m → 0 ≤ big' → 0 ≤ st' → 0 ≤ cnt' → st' < 9223372036854775808 → Q.rt (.int k) (.own h (handL cells p' big' st' cnt') :: r)) →
      B (.own h (handL cells p big st cnt) :: .val (.int m) :: List.replicate (N.length - 2) .no) Q) : FnOk P w G.K mg base (L2.CX P w) (k + 1) f fd ps (spD G 2 wDraw) := by
  refine F.okX Sc (fun vs H Q E h => ?_) fun cdv A outer s H vs Q E hr h => ?_
  · obtain ⟨_, _, _, _, hl, _⟩ := h
    rw [hl, hn]
  · obtain ⟨Z, ds, Qd, Ed, hl, hl2, oin, hh, r, ⟨m, rfl, m0, m1, hq⟩, kq, ke⟩ := h
    cases r with
    | cons r1 r =>
      cases r with
      | cons r2 r =>
        cases r
        cases r2
        cases r1 with
        | @hand h0 eh =>
          obtain ⟨hin, c, cells, p, bg, st0, cnt, e1, nc, e2, q1, q2, q3, q4, q5⟩ := hh h0 eh
          have hsub : ∀ a, a ∈ Z.O.filter (fun b => decide (b ≠ h0)) ↔ a ∈ Z.O ∧ a ≠ h0 := fun a => by simp
          let S' : Ent := ⟨G, ⟨Z.O.filter fun b => decide (b ≠ h0), none, []⟩, fun b => if b = h0 then none else H b⟩
          have sH : ∀ b, b ≠ h0 → S'.H b = H b := fun b hb => if_neg hb
          have R : Rel S' ⟨Z.O, none, []⟩ (.own h0 (handL cells p bg st0 cnt) :: .val (.int m) :: List.replicate (N.length - 2) .no) (L2.start N [.ref h0, .int m]) H := by
            refine ⟨oin, fun a ha => ((hsub a).mp ha).1, fun a ha => (nomatch ha), rfl, fun b o e _ => ?_, fun a ha => ?_, fun a ha => (nomatch ha), ?_, fun i y e => ?_, fun i j y z a ey ez oy oz _ _ => ?_, fun a ha => absurd ha (by simp)⟩
            · by_cases hb : b = h0
              · subst hb
                have z : (none : Option HO) = some o := (if_pos rfl).symm.trans e
                cases z
              · rw [sH b hb] at e; exact e
            · obtain ⟨h1, h2⟩ := (hsub a).mp ha
              rw [sH a h2]; exact oin a h1
            · unfold L2.start
              simp
            · match i with
              | 0 =>
                cases e
                refine ⟨_, rfl, hin, (fun z => nomatch z), if_pos rfl, e1, ?_⟩
                exact .cons (.lst (by rw [vis_out nc]; exact e2) (RepL.of_ints cells)) (.cons (.int _) (.cons (.int _) (.cons (.int _) (.cons (.int _) .nil))))
              | 1 =>
                cases e
                exact ⟨.int m, rfl, .int m⟩
              | i + 2 =>
                rw [List.getElem?_cons_succ, List.getElem?_cons_succ, List.getElem?_replicate] at e
                split at e
                · cases e; trivial
                · cases e
            · have key : ∀ (i : Nat) (y : Sl), ((.own h0 (handL cells p bg st0 cnt) :: .val (.int m) :: List.replicate (N.length - 2) .no) : Env)[i]? = some y → y.owns = true → i = 0 := fun i y e o => by
                match i with
                | 0 => rfl
                | 1 => cases e; cases o
                | i + 2 =>
                  rw [List.getElem?_cons_succ, List.getElem?_cons_succ, List.getElem?_replicate] at e
                  split at e
                  · cases e; cases o
                  · cases e
              rw [key i y ey oy, key j z ez oz]
          obtain ⟨t, pp, q⟩ := (hbody cdv A outer s H E S' rfl hr).run (fun cls d _ H => E cls d H) (takes_of rfl rfl rfl rfl) PassesOwn.leaving
          refine ⟨t, pp, q _ _ _ H { nx := fun _ => False, rt := fun d env => ∃ k p' big' st' cnt' r, d = .int k ∧ 0 ≤ k ∧ k < m ∧ 0 ≤ big' ∧ 0 ≤ st' ∧ 0 ≤ cnt' ∧ st' < 9223372036854775808 ∧ env = .own h0 (handL cells p' big' st' cnt') :: r, bk := fun _ => False, ct := fun _ => False, ex := fun _ _ => False } _ R
            (hB h0 cells p bg st0 cnt m q1 q2 q3 q4 q5 m0 m1 _ fun k p' b' s' c' r g1 g2 g3 g4 g5 g6 => ⟨k, p', b', s', c', r, rfl, g1, g2, g3, g4, g5, g6, rfl⟩)
            ⟨fun _ _ _ _ _ _ h => h.elim, fun Z' e σ' v d H' R' vl rv h => ?_, fun _ _ _ _ _ _ h => h.elim, fun _ _ _ _ _ _ h => h.elim, fun _ _ _ _ _ _ _ _ _ _ h => h.elim, fun _ _ _ _ _ _ _ _ _ _ _ h => h.elim⟩⟩
          obtain ⟨k', p', b', s', c', rr, rfl, g1, g2, g3, g4, g5, g6, rfl⟩ := h
          obtain ⟨vs', es, o1, o2, o3, o4, o5⟩ := R'.slots 0 _ rfl
          obtain ⟨c2, rfl, ec⟩ := repL_hand o5
          obtain ⟨nc2, ec2⟩ := vis_some ec
          refine kq _ v H' (fun b o e n => ?_) (fun a ha => ?_) (by cases rv; exact .int _) (hq k' g1 g2)
          · have hb : b ≠ h0 := fun z => n (by rw [z]; exact eh)
            exact R'.frame b o (by rw [sH b hb]; exact e) (fun z => nomatch z)
          · rw [eh] at ha; cases ha
            refine ⟨hin, c2, cells, p', b', s', c', o4, fun z => nc2 ?_, ec2, q1, g3, g4, g5, g6⟩
            by_cases hc : c2 = h0
            · rw [hc]; exact o1
            · exact R'.sub c2 ((hsub c2).mpr ⟨z, hc⟩)
/-- the hand's making -/
def handSp (G : Pg) : Sp := fun vs H Q _ => ∃ (a : Addr) (ns : List Int), vs = [.ref a] ∧ SqL G.K H a (ns.map V.int) ∧ ns.length ≤ 63 ∧ ∀ p H', Same H H' → H p = none → HandOk [p] H' p → Q (.ref p) H'
theorem hand_fn (F : Fun G.K x qual st f fd) (Sc : FnScope N ps (defScope st)) (hn : 1 = ps.length) (hN : 1 ≤ N.length)
    (hbody : ∀ (cdv : Value) (A : Around) (outer : List PySem.Env) (s : Shared) (H : Hp) (E : XK) (S : Ent), S.G = G → Room k (A.deeper (envOfC qual (defScope st) s.heap.objs.size f cdv)) →
      DSs S (cxOf (L2.CX P w) P w G.K mg base N qual (defScope st) f cdv A outer s H E) (defBody st) B)
    (hB : ∀ (ns : List Int), ns.length ≤ 63 → ∀ Q : Post,
      (∀ (a : Addr) (cells : List Int) (seed : Int) (r : Env), (∀ x ∈ cells, 0 ≤ x) → 0 ≤ seed → seed < 9223372036854775808 → Q.rf (.own a (handL cells 0 0 seed 0)) r) →
      B (.val (.frz (ns.map D.int)) :: List.replicate (N.length - 1) .no) Q) : FnOk P w G.K mg base (L2.CX P w) (k + 1) f fd ps (handSp G) := by
  refine F.okX Sc (fun vs H Q E h => ?_) fun cdv A outer s H vs Q E hr h => ?_
  · obtain ⟨_, _, rfl, _⟩ := h
    exact hn
  · obtain ⟨a, ns, rfl, sq, hl, kq⟩ := h
    have R : Rel ⟨G, ⟨[], none, []⟩, H⟩ ⟨[], none, []⟩ (.val (.frz (ns.map D.int)) :: List.replicate (N.length - 1) .no) (L2.start N [.ref a]) H := by
      refine ⟨fun _ h => absurd h (by simp), fun _ h => h, fun a ha => (nomatch ha), rfl, fun b o e _ => e, fun _ h => absurd h (by simp), fun a ha => (nomatch ha), ?_, fun i y e => ?_, fun i j y z a ey ez oy oz _ _ => ?_, fun a ha => absurd ha (by simp)⟩
      · unfold L2.start
        simp
      · match i with
        | 0 =>
          cases e
          exact ⟨_, rfl, .frz (Same.seq (fun b o e => by rw [vis_out (by simp)]; exact e) sq) (RepL.of_ints ns)⟩
        | i + 1 =>
          rw [List.getElem?_cons_succ, List.getElem?_replicate] at e
          split at e
          · cases e; trivial
          · cases e
      · match i with
        | 0 => cases ey; cases oy
        | i + 1 =>
          rw [List.getElem?_cons_succ, List.getElem?_replicate] at ey
          split at ey
          · cases ey; cases oy
          · cases ey
    obtain ⟨t, pp, q⟩ := (hbody cdv A outer s H E ⟨G, ⟨[], none, []⟩, H⟩ rfl hr).run (fun cls d _ H => E cls d H) (takes_of rfl rfl rfl rfl) PassesOwn.leaving
    refine ⟨t, pp, q _ _ _ H { nx := fun _ => False, rt := fun _ _ => False, bk := fun _ => False, ct := fun _ => False, ex := fun _ _ => False, rf := fun y _ => ∃ a cells seed, y = .own a (handL cells 0 0 seed 0) ∧ (∀ x ∈ cells, 0 ≤ x) ∧ 0 ≤ seed ∧ seed < 9223372036854775808 } _ R
      (hB ns hl _ fun a cells seed r g1 g2 g3 => ⟨a, cells, seed, rfl, g1, g2, g3⟩)
      ⟨fun _ _ _ _ _ _ h => h.elim, fun _ _ _ _ _ _ _ _ _ h => h.elim, fun _ _ _ _ _ _ h => h.elim, fun _ _ _ _ _ _ h => h.elim, fun _ _ _ _ _ _ _ _ _ _ h => h.elim, fun Z' e σ' b y H' R' vl sp nb oa h => ?_⟩⟩
    obtain ⟨b2, cells, seed, rfl, g1, g2, g3⟩ := h
    obtain ⟨rfl, vs, e1, rl⟩ := oa
    obtain ⟨c2, rfl, ec⟩ := repL_hand rl
    obtain ⟨nc2, ec2⟩ := vis_some ec
    refine kq _ H' (fun b o e => R'.frame b o e fun z => nomatch z) sp.ne ⟨List.mem_cons_self, c2, cells, 0, 0, seed, 0, e1, fun z => nc2 ?_, ec2, g1, by omega, g2, by omega, g3⟩
    rw [List.mem_singleton.mp z]
    exact sp.ino
/-- law's promise -/
def lawSp (K : PySem.W.Frag) : Sp := fun vs H Q _ => ∃ (a : Addr) (ns : List Int), vs = [.ref a] ∧ SqL K H a (ns.map V.int) ∧ ns.length ≤ 63 ∧ ∀ H', Q (.bl true) H'
theorem law_fn {st0 : Stmt} {rest : List Stmt} (F : Fun G.K x qual st f fd) (Sc : FnScope N ps (defScope st)) (hn : 1 = ps.length) (hN : 2 ≤ N.length) (hst : defBody st = st0 :: rest)
    (h0 : ∀ (cdv : Value) (A : Around) (outer : List PySem.Env) (s : Shared) (H : Hp) (E : XK), Room k (A.deeper (envOfC qual (defScope st) s.heap.objs.size f cdv)) →
      PS (cxOf (L2.CX P w) P w G.K mg base N qual (defScope st) f cdv A outer s H E) st0 (tAsg (tCallS (handSp G) (fun _ _ _ _ => False) (tCons (tVar 0) tNil)) (gName 1)))
    (hbody : ∀ (cdv : Value) (A : Around) (outer : List PySem.Env) (s : Shared) (H : Hp) (E : XK) (S : Ent), S.G = G → Room k (A.deeper (envOfC qual (defScope st) s.heap.objs.size f cdv)) →
      DSs S (cxOf (L2.CX P w) P w G.K mg base N qual (defScope st) f cdv A outer s H E) rest B)
    (hB : B (.no :: .val .hand :: List.replicate (N.length - 2) .no) { nx := fun _ => False, rt := fun d _ => d = .bl true, bk := fun _ => False, ct := fun _ => False, ex := fun _ _ => False }) :
    FnOk P w G.K mg base (L2.CX P w) (k + 1) f fd ps (lawSp G.K) := by
  refine F.okX Sc (fun vs H Q E h => ?_) fun cdv A outer s H vs Q E hr h => ?_
  · obtain ⟨_, _, rfl, _⟩ := h
    exact hn
  · obtain ⟨a, ns, rfl, sq, hl, kq⟩ := h
    let T : TS := fun D' σ H' => ∃ S : Ent, ∃ Z env, S.G = G ∧ Rel S Z env σ H' ∧ B env { nx := fun _ => False, rt := fun d _ => d = .bl true, bk := fun _ => False, ct := fun _ => False, ex := fun _ _ => False } ∧ ∀ H', D'.rt (.bl true) H'
    have pr : PSs (cxOf (L2.CX P w) P w G.K mg base N qual (defScope st) f cdv A outer s H E) rest T := ⟨fun pins s1 σ H1 D' I hh => by
      obtain ⟨S, Z, env, eG, R, hb, kk⟩ := hh
      obtain ⟨t, pp, q⟩ := (hbody cdv A outer s H E S eG hr).run (fun cls d _ H => E cls d H) (takes_of rfl rfl rfl rfl) PassesOwn.leaving
      exact pp.run pins s1 σ H1 D' I (q Z env σ H1 _ D' R hb ⟨fun _ _ _ _ _ _ h => h.elim, fun Z' e σ' v d H' R' vl rv h => by subst h; cases rv; exact kk H', fun _ _ _ _ _ _ h => h.elim, fun _ _ _ _ _ _ h => h.elim, fun _ _ _ _ _ _ _ _ _ _ h => h.elim, fun _ _ _ _ _ _ _ _ _ _ _ h => h.elim⟩)⟩
    rw [hst]
    refine ⟨_, pss_cons (h0 cdv A outer s H E hr) pr, ?_⟩
    refine ⟨.ref a, ?_, a, ns, rfl, sq, hl, fun p H' sm hp ho => ?_⟩
    · unfold L2.start
      rfl
    · refine ⟨⟨G, ⟨[p], some p, []⟩, H'⟩, ⟨[p], some p, []⟩, _, rfl, ?_, hB, kq⟩
      have hpn : H' p ≠ none := by
        obtain ⟨_, _, _, _, _, _, _, e, _⟩ := ho
        rw [e]; simp
      refine ⟨fun b hb => by rw [List.mem_singleton.mp hb]; exact hpn, fun _ h => h, fun b hb => by cases hb; exact ho, rfl, fun b o e _ => e, fun b hb => by rw [List.mem_singleton.mp hb]; exact hpn, fun b hb => .inl hb, ?_, fun i y e => ?_, fun i j y z b ey ez oy oz _ _ => ?_, fun b hb => absurd hb (by simp)⟩
      · unfold L2.start
        simp
        omega
      · match i with
        | 0 => cases e; trivial
        | 1 =>
          cases e
          refine ⟨.ref p, ?_, .hand rfl⟩
          rw [List.getElem?_set_self]
          unfold L2.start
          simp
          omega
        | i + 2 =>
          rw [List.getElem?_cons_succ, List.getElem?_cons_succ, List.getElem?_replicate] at e
          split at e
          · cases e; trivial
          · cases e
      · match i with
        | 0 => cases ey; cases oy
        | 1 => cases ey; cases oy
        | i + 2 =>
          rw [List.getElem?_cons_succ, List.getElem?_cons_succ, List.getElem?_replicate] at ey
          split at ey
          · cases ey; cases oy
          · cases ey
end
end DV

set_option Elab.async false
set_option linter.all false
set_option maxRecDepth 100000
/-! DV8: further rules. -/
namespace DV
open PySem PySem.Spec PyProof.Rows L2
section
variable {S : Ent} {X : Cx} {a b c e : Expr} {Ta Tb Tc Te : Tm} {pos : Pos} {A : Tt}
def wNeg (T : Tm) : Tm := fun env Q E => T env (fun d env1 => match d with | .int i => Q (.int (-i)) env1 | _ => False) E
theorem dx_neg (ha : DB S X a Ta) : DE S X (.UnaryOp .USub a pos) (wNeg Ta) := ⟨fun W tk => by
  obtain ⟨t, p, q⟩ := ha.run W tk
  refine ⟨_, pe_un un_neg p, fun Z env σ H Q E Q' R hT k x => ?_⟩
  refine q Z env σ H _ E _ R hT (fun Z1 env1 v d H1 R1 t1 r1 h1 => ?_) x
  split at h1
  · exact ⟨_, r1.int, k Z1 env1 _ _ H1 R1 t1 (.int _) h1⟩
  · exact h1.elim⟩
/-- y = [..] of one line, a value -/
theorem ds_valLc (i : Nat) {y : Str} {py : Pos} {elt tg iter : Expr} {ifs : List Expr} {scope : Scope} {own : List (Str × Nat)} {spos : Pos} {Tt' : Ti} {g : Tg} {ix ws : List Nat} (hc : X.calm = true) (hN : X.N.Nodup)
    (hi : DI S Mv X tg iter Tt') (ok : BlkOk X.N X.env.scope scope own)
    (hg : ∀ (s : Shared) (H : Hp) (C : Addr) (cl : List (Str × Addr)) (fp : List Addr), DG S (X.blk s H scope (compEnvC scope cl C X.env) fp) tg ix g)
    (ht : ∀ (s : Shared) (H : Hp) (C : Addr) (cl : List (Str × Addr)) (fp : List Addr), DIf S (X.blk s H scope (compEnvC scope cl C X.env) fp) ifs A)
    (he : ∀ (s : Shared) (H : Hp) (C : Addr) (cl : List (Str × Addr)) (fp : List Addr), DE S (X.blk s H scope (compEnvC scope cl C X.env) fp) elt Te)
    (hsw : swapsWith (.ListComp elt [⟨tg, iter, ifs, 0⟩] scope pos) (some (.Name y py)) spos.line X.env = pure true) (hy : X.N[i]? = some y := by rfl) (hyl : X.env.scope.names.lookup y = some .local := by rfl)
    (hw : own.map (·.2) = ws := by rfl) (hix : ∀ i ∈ ix, i ∈ ws := by decide) (hs : ∀ x, foldedSetIterable iter X.env x = pure x := by intro _; rfl) :
    DS S X (.Assign [.Name y py] (.ListComp elt [⟨tg, iter, ifs, 0⟩] scope pos) spos) (wAsg (wF (wLc Tt' g A Te ws)) (gN i)) := ⟨fun W tk pa => by
  subst hw
  obtain ⟨wi, pi, qi⟩ := hi.run W tk
  let gt : TG := fun v σ H K' => ∀ s0 H0 C cl fp, Classical.choose (hg s0 H0 C cl fp).run v σ H K'
  have pg : ∀ s0 H0 C cl fp, PG (X.blk s0 H0 scope (compEnvC scope cl C X.env) fp) tg gt := fun s0 H0 C cl fp =>
    ⟨fun pins s σ H v u Q I r h => (Classical.choose_spec (hg s0 H0 C cl fp).run).1.run pins s σ H v u Q I r (h s0 H0 C cl fp)⟩
  refine ⟨_, ps_setLc hc hN hy hyl hsw pi ok pg (fun s H C cl fp => (ht s H C cl fp).sem W0 takes0) (fun s H C cl fp => (he s H C cl fp).sem takes0) hs, fun Z env σ H P D' R hT f => ?_⟩
  refine qi Z env σ H _ _ _ R hT (fun Z1 env1 J items H1 R1 t1 y h1 D0 hD => ?_) (f.ex σ)
  obtain ⟨hz, hgo⟩ := h1
  refine lc_turns hix (fun Z env σ H v d K K' R r hk kk s0 H0 C cl fp => (Classical.choose_spec (hg s0 H0 C cl fp).run).2 Z env σ H v d K K' R r hk kk) R1 y hD hz hgo fun Z' e2 vs acc H' R' t' hD' rl hq => ?_
  obtain ⟨R2, sp⟩ := R'.release t'.bb
  have t2 : Tr Z1 H1 ⟨Z'.O, Z'.h, Z1.B⟩ H' := ⟨t'.keep, t'.osub, t'.hh, t'.hz, rfl⟩
  have R3 := R1.back (R1.vle t2) R2
  have sb := sp.back (env := env1)
  have oa : OwnAt S ⟨Z'.O, Z'.h, Z1.B⟩ H' D0 (.own D0 acc) := ⟨rfl, vs, hD', rl⟩
  obtain ⟨R4, v4⟩ := R3.unhide sb.no sb.ne sb.nh (R3.entOut sb.ne) fun hb => (R1.oin D0 (R1.res D0 hb).ino) hD
  exact f.nx _ _ _ H' (R4.put (oa.show v4 (by simp))) (((R.vle t1).trans (R1.vle t2)).trans v4) (hq D0)⟩
/-! ### xs[::-1] -/
def wRev (T : Tm) : Tm := fun env Q E => T env (fun d env1 => match d with | .lst xs => Q (.lst xs.reverse) env1 | _ => False) E
theorem RepL.app {G : Pg} {H : Hp} {hh : Option Addr} : ∀ {vs ws : List V} {ds es : List D}, RepL G H hh vs ds → RepL G H hh ws es → RepL G H hh (vs ++ ws) (ds ++ es)
  | _, _, _, _, .nil, h => h
  | _, _, _, _, .cons h1 h2, h => .cons h1 (RepL.app h2 h)
theorem RepL.rev {G : Pg} {H : Hp} {hh : Option Addr} : ∀ {vs : List V} {ds : List D}, RepL G H hh vs ds → RepL G H hh vs.reverse ds.reverse
  | _, _, .nil => .nil
  | _, _, .cons h1 h2 => by
    rw [List.reverse_cons, List.reverse_cons]
    exact RepL.app h2.rev (.cons h1 .nil)
theorem dx_rev {k : Nat} {p1 p2 p3 : Pos} (hK : X.K = S.G.K) (ha : DB S X a Ta) : DE S X (.Subscript a (.Slice none none (some (.UnaryOp .USub (.Constant (.int 1) k p1) p2)) p3) pos) (wRev Ta) := ⟨fun W tk => by
  obtain ⟨ta, pa, ra⟩ := ha.run W tk
  refine ⟨_, pe_revL pa, fun Z env σ H Q E Q' R hT k x => ?_⟩
  refine ra Z env σ H _ E _ R hT (fun Z1 env1 v d H1 R1 t1 r1 h1 => ?_) x
  split at h1
  · obtain ⟨p, vs, rfl, ep, rp⟩ := r1.lst
    exact ⟨p, vs, rfl, SqL.of ep, fun q hq => k Z1 env1 _ _ _ (R1.grow (same_upd hq)) (Tr.trans R1 t1 (.alloc (same_upd hq))) (new_lst R1.oin hq rp.rev) h1⟩
  · exact h1.elim⟩
end
end DV

set_option Elab.async false
set_option linter.all false
set_option maxRecDepth 100000
/-! DV9: words for the plain proofs. -/
namespace DV
open PySem PySem.Spec PyProof.Rows L2
theorem draw_iff {x y : D} {Q : D → Prop} {E : Er → Prop} : wDraw [x, y] Q E ↔ x = .hand ∧ ∃ m, y = .int m ∧ 0 < m ∧ m < 1073741824 ∧ ∀ d : Int, 0 ≤ d → d < m → Q (.int d) := by
  unfold wDraw
  constructor
  · rintro ⟨m, e, h⟩
    cases e
    exact ⟨rfl, m, rfl, h⟩
  · rintro ⟨rfl, m, rfl, h⟩
    exact ⟨m, rfl, h⟩
theorem own_ex {b : Addr} {ys : List D} {P : Addr → List D → Prop} : (∃ a xs, some (Sl.own b ys) = some (.own a xs) ∧ P a xs) ↔ P b ys := by
  constructor
  · rintro ⟨a, xs, e, h⟩; cases e; exact h
  · intro h; exact ⟨b, ys, rfl, h⟩
theorem val_ex {d : Int} {P : Int → Prop} : (∃ n, some (Sl.val (.int d)) = some (.val (.int n)) ∧ P n) ↔ P d := by
  constructor
  · rintro ⟨n, e, h⟩; cases e; exact h
  · intro h; exact ⟨d, rfl, h⟩
section
variable {α : Type} {a b c d e : α} {l : List α}
theorem atI_0 : atI (a :: l) 0 = some a := by
  unfold atI ixN
  rw [if_pos (by decide), if_pos (by simp only [List.length_cons]; omega)]
  rfl
theorem atI_1 : atI (a :: b :: l) 1 = some b := by
  unfold atI ixN
  rw [if_pos (by decide), if_pos (by simp only [List.length_cons]; omega)]
  rfl
theorem atI_2 : atI (a :: b :: c :: l) 2 = some c := by
  unfold atI ixN
  rw [if_pos (by decide), if_pos (by simp only [List.length_cons]; omega)]
  rfl
theorem atI_3 : atI (a :: b :: c :: d :: l) 3 = some d := by
  unfold atI ixN
  rw [if_pos (by decide), if_pos (by simp only [List.length_cons]; omega)]
  rfl
theorem atI_4 : atI (a :: b :: c :: d :: e :: l) 4 = some e := by
  unfold atI ixN
  rw [if_pos (by decide), if_pos (by simp only [List.length_cons]; omega)]
  rfl
theorem atI_nat {l : List α} {i : Int} {k : Nat} (h : i = k) : atI l i = l[k]? := by
  subst h
  unfold atI ixN
  rw [if_pos (by omega)]
  by_cases q : (k : Int) < l.length
  · rw [if_pos q]; rfl
  · rw [if_neg q, List.getElem?_eq_none (by omega)]; rfl
end
theorem ixN_5_0 : ixN 5 0 = some 0 := rfl
theorem ixN_5_1 : ixN 5 1 = some 1 := rfl
theorem ixN_5_2 : ixN 5 2 = some 2 := rfl
theorem ixN_5_3 : ixN 5 3 = some 3 := rfl
theorem ixN_5_4 : ixN 5 4 = some 4 := rfl
theorem okD_int {i : Int} {n : Nat} : okD (.int i) n = true := by rw [okD]
theorem okD_bl {i : Bool} {n : Nat} : okD (.bl i) n = true := by rw [okD]
theorem okD_non {n : Nat} : okD .non n = true := by rw [okD]
theorem okD_lst {xs : List D} {n : Nat} : okD (.lst xs) (n + 1) = okL xs n := by rw [okD]
theorem okD_tup {xs : List D} {n : Nat} : okD (.tup xs) (n + 1) = okL xs n := by rw [okD]
theorem okL_nil {n : Nat} : okL [] n = true := by rw [okL]
theorem okL_cons {x : D} {xs : List D} {n : Nat} : okL (x :: xs) n = (okD x n && okL xs n) := by rw [okL]
theorem okL_all {xs : List D} {n : Nat} (h : ∀ x ∈ xs, okD x n = true) : okL xs n = true := by
  induction xs with
  | nil => rw [okL]
  | cons x xs ih => rw [okL, h x List.mem_cons_self, ih fun y hy => h y (List.mem_cons_of_mem _ hy)]; rfl
theorem okL_int {xs : List Int} {n : Nat} : okL (xs.map D.int) n = true := okL_all fun x h => by
  obtain ⟨i, _, rfl⟩ := List.mem_map.mp h
  exact okD_int
/-! ### equal data -/
theorem eqD_int {i j : Int} : eqD (.int i) (.int j) = decide (i = j) := by
  unfold eqD
  rw [pd, pd, PyData.eqv]
  exact Bool.eq_iff_iff.mpr (by rw [beq_iff_eq, decide_eq_true_iff])
theorem eqD_bl {i j : Bool} : eqD (.bl i) (.bl j) = decide (i = j) := by
  unfold eqD
  rw [pd, pd, PyData.eqv]
  exact Bool.eq_iff_iff.mpr (by rw [beq_iff_eq, decide_eq_true_iff])
theorem eqD_str {i j : Str} : eqD (.str i) (.str j) = decide (i = j) := by
  unfold eqD
  rw [pd, pd, PyData.eqv]
  exact Bool.eq_iff_iff.mpr (by rw [beq_iff_eq, decide_eq_true_iff])
theorem eqL_nil : eqL [] [] = true := by
  unfold eqL
  rw [pdL, PyData.eqvAll]
theorem eqL_nc {y : D} {ys : List D} : eqL [] (y :: ys) = false := by
  unfold eqL
  rw [pdL, pdL, PyData.eqvAll]
theorem eqL_cn {y : D} {ys : List D} : eqL (y :: ys) [] = false := by
  unfold eqL
  rw [pdL, pdL, PyData.eqvAll]
theorem eqL_cons {x y : D} {xs ys : List D} : eqL (x :: xs) (y :: ys) = (eqD x y && eqL xs ys) := by
  unfold eqL eqD
  rw [pdL, pdL, PyData.eqvAll]
theorem eqD_tup {xs ys : List D} : eqD (.tup xs) (.tup ys) = eqL xs ys := by
  unfold eqD eqL
  rw [pd, pd, PyData.eqv]
theorem eqD_lst {xs ys : List D} : eqD (.lst xs) (.lst ys) = eqL xs ys := by
  unfold eqD eqL
  rw [pd, pd, PyData.eqv]
theorem eqL_int : ∀ {xs ys : List Int}, eqL (xs.map D.int) (ys.map D.int) = decide (xs = ys)
  | [], [] => by simp [eqL_nil]
  | [], _ :: _ => by simp [eqL_nc]
  | _ :: _, [] => by simp [eqL_cn]
  | x :: xs, y :: ys => by
    rw [List.map_cons, List.map_cons, eqL_cons, eqD_int, eqL_int]
    simp only [List.cons.injEq, Bool.decide_and]
theorem eqL_str : ∀ {xs ys : List Str}, eqL (xs.map D.str) (ys.map D.str) = decide (xs = ys)
  | [], [] => by simp [eqL_nil]
  | [], _ :: _ => by simp [eqL_nc]
  | _ :: _, [] => by simp [eqL_cn]
  | x :: xs, y :: ys => by
    rw [List.map_cons, List.map_cons, eqL_cons, eqD_str, eqL_str]
    simp only [List.cons.injEq, Bool.decide_and]
mutual
theorem eqD_refl : ∀ {x : D} {n : Nat}, okD x n = true → eqD x x = true
  | .non, _, _ => by unfold eqD; rw [pd, PyData.eqv]
  | .bl _, _, _ => by rw [eqD_bl]; simp
  | .int _, _, _ => by rw [eqD_int]; simp
  | .str _, _, _ => by rw [eqD_str]; simp
  | .tup xs, 0, h => by rw [okD] at h; cases h
  | .tup xs, n + 1, h => by
    rw [okD] at h
    rw [eqD_tup]; exact eqL_refl h
  | .lst xs, 0, h => by rw [okD] at h; cases h
  | .lst xs, n + 1, h => by
    rw [okD] at h
    rw [eqD_lst]; exact eqL_refl h
  | .dct _, _, h => by rw [okD] at h; cases h
  | .obj _ _, _, h => by rw [okD] at h; cases h
  | .frz _, _, h => by rw [okD] at h; cases h
  | .hand, _, h => by rw [okD] at h; cases h
theorem eqL_refl : ∀ {x : List D} {n : Nat}, okL x n = true → eqL x x = true
  | [], _, _ => eqL_nil
  | x :: xs, n, h => by
    rw [okL, Bool.and_eq_true] at h
    rw [eqL_cons, eqD_refl h.1, eqL_refl h.2]; rfl
end
/-! ### turns -/
theorem for_ind {g : Tg} {B : Ts} {P : Post} (I : List D → Env → Prop) (fin : ∀ env, I [] env → P.nx env)
    (step : ∀ x r env, I (x :: r) env → ∀ nx : Env → Prop, (∀ e, I r e → nx e) → g x env fun e1 => B e1 { P with nx := nx, ct := nx, bk := P.nx }) : ∀ {xs : List D} {env : Env}, I xs env → forGo g B P xs env
  | [], env, h => fin env h
  | x :: r, env, h => step x r env h _ fun _ h2 => for_ind I fin step h2
theorem rangeD_get {lo hi : Int} {k : Nat} (h : (k : Int) < hi - lo) : (rangeD lo hi).drop k = .int (lo + k) :: (rangeD lo hi).drop (k + 1) := by
  have hl : (rangeD lo hi).length = (hi - lo).toNat := by unfold rangeD; simp
  rw [List.drop_eq_getElem_cons (by rw [hl]; omega)]
  congr 1
  unfold rangeD
  simp
theorem for_range {g : Tg} {B : Ts} {P : Post} {lo hi : Int} (I : Nat → Env → Prop) {env : Env} (h0 : I 0 env) (fin : ∀ env, I (hi - lo).toNat env → P.nx env)
    (step : ∀ (k : Nat) env, (k : Int) < hi - lo → I k env → ∀ nx : Env → Prop, (∀ e, I (k + 1) e → nx e) → g (.int (lo + k)) env fun e1 => B e1 { P with nx := nx, ct := nx, bk := P.nx }) : forGo g B P (rangeD lo hi) env := by
  have hl : (rangeD lo hi).length = (hi - lo).toNat := by unfold rangeD; simp
  refine for_ind (fun r e => ∃ k, k ≤ (hi - lo).toNat ∧ r = (rangeD lo hi).drop k ∧ I k e) (fun e h => ?_) (fun x r e h nx hn => ?_) ⟨0, by omega, rfl, h0⟩
  · obtain ⟨k, hk, e1, h⟩ := h
    have e2 := congrArg List.length e1
    rw [List.length_drop, hl] at e2
    have : k = (hi - lo).toNat := by simp at e2; omega
    subst this
    exact fin e h
  · obtain ⟨k, hk, e1, h⟩ := h
    have e2 := congrArg List.length e1
    rw [List.length_drop, hl] at e2
    have hk2 : (k : Int) < hi - lo := by simp at e2; omega
    rw [rangeD_get hk2] at e1
    cases e1
    exact step k e hk2 h nx fun e2 h2 => hn e2 ⟨k + 1, by omega, rfl, h2⟩
theorem wh_ind {A : Tt} {B : Ts} {P : Post} (I : Nat → Env → Prop)
    (step : ∀ m env, I m env → ∀ nx : Env → Prop, (∀ m' e, m' < m → I m' e → nx e) → A env (fun k e1 => if k = true then B e1 { P with nx := nx, ct := nx, bk := P.nx } else P.nx e1) P.ex) {m : Nat} {env : Env} (h : I m env) : ∃ n, whGo A B P n env := by
  have key : ∀ n m env, m < n → I m env → whGo A B P n env := by
    intro n
    induction n with
    | zero => intro m env h; omega
    | succ n ih => exact fun m env hm hi => step m env hi _ fun m' e h1 h2 => ih m' e (by omega) h2
  exact ⟨m + 1, key _ _ _ (Nat.lt_succ_self m) h⟩
theorem lc_flat {g : Tg} {A : Tt} {Te : Tm} {ws : List Nat} {K : List D → Env → Prop} (FF : D → List D) {env : Env} : ∀ {xs acc : List D}, (∀ x ∈ xs, ∀ K' : List D → Env → Prop, K' (FF x) env → g x env fun e1 => A e1 (fun b e2 => if b = true then Te e2 (fun d e3 => K' [d] (wipeE e3 ws)) (fun _ _ => False) else K' [] (wipeE e2 ws)) fun _ _ => False) →
    K (acc ++ xs.flatMap FF) env → lcGo g A Te ws xs acc env K
  | [], acc, _, h => by simpa [lcGo] using h
  | x :: xs, acc, hs, h => by
    have := hs x List.mem_cons_self (fun ds e => lcGo g A Te ws xs (acc ++ ds) e K) (lc_flat FF (fun y hy => hs y (List.mem_cons_of_mem _ hy)) (by simpa [List.append_assoc] using h))
    simpa only [lcGo, List.append_nil] using this
theorem lc_map {g : Tg} {A : Tt} {Te : Tm} {ws : List Nat} {K : List D → Env → Prop} (F : D → D) {env : Env} {xs acc : List D} (hs : ∀ x ∈ xs, ∀ K' : List D → Env → Prop, K' [F x] env → g x env fun e1 => A e1 (fun b e2 => if b = true then Te e2 (fun d e3 => K' [d] (wipeE e3 ws)) (fun _ _ => False) else K' [] (wipeE e2 ws)) fun _ _ => False)
    (h : K (acc ++ xs.map F) env) : lcGo g A Te ws xs acc env K := lc_flat (fun x => [F x]) hs (by rw [List.map_eq_flatMap] at h; exact h)
/-- each turn gives one datum that answers to R -/
theorem lc_rel {g : Tg} {A : Tt} {Te : Tm} {ws : List Nat} {K : List D → Env → Prop} (R : D → D → Prop) {env : Env} : ∀ {xs acc : List D}, (∀ x ∈ xs, ∀ K' : List D → Env → Prop, (∀ d, R x d → K' [d] env) → g x env fun e1 => A e1 (fun b e2 => if b = true then Te e2 (fun d e3 => K' [d] (wipeE e3 ws)) (fun _ _ => False) else K' [] (wipeE e2 ws)) fun _ _ => False) →
    (∀ ds : List D, ds.length = xs.length → (∀ (i : Nat) x d, xs[i]? = some x → ds[i]? = some d → R x d) → K (acc ++ ds) env) → lcGo g A Te ws xs acc env K
  | [], acc, _, h => by simpa [lcGo] using h [] rfl (by intro i x d e; simp at e)
  | x :: xs, acc, hs, h => by
    have := hs x List.mem_cons_self (fun ds e => lcGo g A Te ws xs (acc ++ ds) e K) (fun d hd => lc_rel R (fun y hy => hs y (List.mem_cons_of_mem _ hy)) fun ds hl hr => by
      rw [List.append_assoc]
      refine h (d :: ds) (by simp [hl]) fun i a b e1 e2 => ?_
      match i with
      | 0 => cases e1; cases e2; exact hd
      | i + 1 => exact hr i a b (by simpa using e1) (by simpa using e2))
    simpa only [lcGo, List.append_nil] using this
/-- draws: a list of numbers from nought to below b -/
theorem ints_of {ds : List D} {p : Int → Prop} (h : ∀ d ∈ ds, ∃ i, d = .int i ∧ p i) : ∃ ns : List Int, ds = ns.map D.int ∧ ∀ n ∈ ns, p n := by
  induction ds with
  | nil => exact ⟨[], rfl, by simp⟩
  | cons d ds ih =>
    obtain ⟨ns, e, hn⟩ := ih fun x hx => h x (List.mem_cons_of_mem _ hx)
    obtain ⟨i, rfl, hi⟩ := h d List.mem_cons_self
    refine ⟨i :: ns, by rw [List.map_cons, e], fun n hn' => ?_⟩
    rcases List.mem_cons.mp hn' with rfl | hm
    · exact hi
    · exact hn n hm
theorem lc_ints {g : Tg} {A : Tt} {Te : Tm} {ws : List Nat} {K : List D → Env → Prop} (p : Int → Prop) {env : Env} {xs : List D} (hs : ∀ x ∈ xs, ∀ K' : List D → Env → Prop, (∀ d, p d → K' [.int d] env) → g x env fun e1 => A e1 (fun b e2 => if b = true then Te e2 (fun d e3 => K' [d] (wipeE e3 ws)) (fun _ _ => False) else K' [] (wipeE e2 ws)) fun _ _ => False)
    (h : ∀ ns : List Int, ns.length = xs.length → (∀ n ∈ ns, p n) → K (ns.map D.int) env) : lcGo g A Te ws xs [] env K := by
  refine lc_rel (fun _ d => ∃ i, d = .int i ∧ p i) (fun x hx K' hk => hs x hx K' fun d hd => hk _ ⟨d, rfl, hd⟩) fun ds hl hr => ?_
  obtain ⟨ns, rfl, hn⟩ := ints_of (p := p) (ds := ds) fun d hd => by
    obtain ⟨i, hi, e⟩ := List.getElem_of_mem hd
    exact hr i _ d (List.getElem?_eq_getElem (by omega)) (by rw [List.getElem?_eq_getElem hi, e])
  exact h ns (by simpa using hl) hn
theorem mem_range {lo hi : Int} {x : D} (h : x ∈ rangeD lo hi) : ∃ i, x = .int i ∧ lo ≤ i ∧ i < hi := by
  unfold rangeD at h
  obtain ⟨k, hk, rfl⟩ := List.mem_map.mp h
  rw [List.mem_range] at hk
  exact ⟨_, rfl, by omega, by omega⟩
theorem natAbs_10 : Int.natAbs 10 = 10 := rfl
theorem natAbs_2 : Int.natAbs 2 = 2 := rfl
theorem emod_mul_l {a b q : Int} : a % q * b % q = a * b % q := by
  rw [Int.mul_emod, Int.emod_emod_of_dvd _ (Int.dvd_refl q), ← Int.mul_emod]
theorem emod_mul_r {a b q : Int} : a * (b % q) % q = a * b % q := by
  rw [Int.mul_emod, Int.emod_emod_of_dvd _ (Int.dvd_refl q), ← Int.mul_emod]
def rangeI (lo hi : Int) : List Int := (List.range (hi - lo).toNat).map fun (k : Nat) => lo + k
theorem rangeD_map {lo hi : Int} : rangeD lo hi = (rangeI lo hi).map D.int := by
  unfold rangeD rangeI
  rw [List.map_map]; rfl
theorem mem_rangeI {lo hi x : Int} : x ∈ rangeI lo hi ↔ lo ≤ x ∧ x < hi := by
  unfold rangeI
  rw [List.mem_map]
  constructor
  · rintro ⟨k, hk, rfl⟩
    rw [List.mem_range] at hk
    omega
  · intro h
    exact ⟨(x - lo).toNat, by rw [List.mem_range]; omega, by omega⟩
theorem rangeI_len {lo hi : Int} : (rangeI lo hi).length = (hi - lo).toNat := by unfold rangeI; simp
/-- a loop that looks for the first hit -/
theorem for_search {α : Type} {emb : α → D} {g : Tg} {B : Ts} (f : α → Option D) (J : Env → Prop) : ∀ {xs : List α} {P : Post} {env : Env}, (∀ d, xs.findSome? f = some d → ∀ e, P.rt d e) → (xs.findSome? f = none → ∀ e, J e → P.nx e) →
    (∀ x ∈ xs, ∀ env, J env → ∀ P' : Post, (∀ d, f x = some d → ∀ e, P'.rt d e) → (f x = none → ∀ e, J e → P'.nx e) → g (emb x) env fun e1 => B e1 P') → J env → forGo g B P (xs.map emb) env
  | [], P, env, _, h2, _, j => h2 rfl env j
  | x :: xs, P, env, h1, h2, hs, j => by
    rw [List.map_cons, forGo]
    refine hs x List.mem_cons_self env j _ (fun d hd e => h1 d (by rw [List.findSome?_cons, hd]) e) fun hn e je => ?_
    exact for_search f J (fun d hd => h1 d (by rw [List.findSome?_cons, hn]; exact hd)) (fun hd => h2 (by rw [List.findSome?_cons, hn]; exact hd)) (fun y hy => hs y (List.mem_cons_of_mem _ hy)) je
theorem findSome_congr {α β : Type} {f f' : α → Option β} : ∀ {xs : List α}, (∀ x ∈ xs, f x = f' x) → xs.findSome? f = xs.findSome? f'
  | [], _ => rfl
  | x :: xs, h => by
    rw [List.findSome?_cons, List.findSome?_cons, h x List.mem_cons_self, findSome_congr fun y hy => h y (List.mem_cons_of_mem _ hy)]
theorem big_0 : (0 ≤ big) = True := eq_true (by decide)
theorem big_1 : (1 ≤ big) = True := eq_true (by decide)
theorem big_2 : (2 ≤ big) = True := eq_true (by decide)
theorem big_3 : (3 ≤ big) = True := eq_true (by decide)
theorem big_4 : (4 ≤ big) = True := eq_true (by decide)
theorem big_5 : (5 ≤ big) = True := eq_true (by decide)
theorem big_6 : (6 ≤ big) = True := eq_true (by decide)
theorem big_7 : (7 ≤ big) = True := eq_true (by decide)
theorem big_8 : (8 ≤ big) = True := eq_true (by decide)
theorem big_9 : (9 ≤ big) = True := eq_true (by decide)
theorem big_10 : (10 ≤ big) = True := eq_true (by decide)
theorem big_11 : (11 ≤ big) = True := eq_true (by decide)
theorem big_12 : (12 ≤ big) = True := eq_true (by decide)
/-! ### cuts -/
theorem cut_map {xs : List Int} {lo hi : Option Int} : DV.cutD (xs.map D.int) lo hi = ((xs.drop (HT.sIx xs.length 0 lo)).take (HT.sIx xs.length xs.length hi - HT.sIx xs.length 0 lo)).map D.int := by
  unfold DV.cutD
  rw [List.length_map, List.map_take, List.map_drop]
theorem cut_to {xs : List D} {i : Int} {k : Nat} (h : i = k) : DV.cutD xs none (some i) = xs.take k := by
  subst h
  unfold DV.cutD
  rw [HT.sIx_none, HT.sIx_nat, List.drop_zero, Nat.sub_zero]
  by_cases h : k ≤ xs.length
  · rw [Nat.min_eq_left h]
  · rw [Nat.min_eq_right (by omega), List.take_length, List.take_of_length_le (by omega)]
theorem cut_from {xs : List D} {i : Int} {k : Nat} (h : i = k) : DV.cutD xs (some i) none = xs.drop k := by
  subst h
  unfold DV.cutD
  rw [HT.sIx_none, HT.sIx_nat]
  by_cases h : k ≤ xs.length
  · rw [Nat.min_eq_left h, List.take_of_length_le (by rw [List.length_drop]; omega)]
  · rw [Nat.min_eq_right (by omega), Nat.sub_self, List.take_zero, List.drop_of_length_le (by omega)]
theorem cut_mid {xs : List D} {i j : Int} {k m : Nat} (h : i = k) (h2 : j = m) : DV.cutD xs (some i) (some j) = (xs.drop k).take (m - k) := by
  subst h h2
  unfold DV.cutD
  rw [HT.sIx_nat, HT.sIx_nat]
  by_cases h : k ≤ xs.length
  · rw [Nat.min_eq_left h]
    by_cases h' : m ≤ xs.length
    · rw [Nat.min_eq_left h']
    · rw [Nat.min_eq_right (by omega), List.take_of_length_le (i := m - k) (by rw [List.length_drop]; omega), List.take_of_length_le (by rw [List.length_drop]; omega)]
  · rw [Nat.min_eq_right (by omega : xs.length ≤ k), List.drop_of_length_le (by omega), List.drop_of_length_le (by omega), List.take_nil, List.take_nil]
theorem okD_str {x : Str} {n : Nat} : okD (.str x) n = PyData.strOk x := by rw [okD, PyData.canLay0]
/-! ### slots, not by computing -/
section
variable {α : Type} {a b : α} {l : List α} {n : Nat}
theorem get_z : (a :: l)[0]? = some a := Eq.trans (Eq.refl _) List.getElem?_cons_zero
theorem get_s : (a :: l)[n + 1]? = l[n]? := Eq.trans (Eq.refl _) List.getElem?_cons_succ
theorem set_z : (a :: l).set 0 b = b :: l := Eq.trans (Eq.refl _) (Eq.refl _)
theorem set_s : (a :: l).set (n + 1) b = a :: l.set n b := Eq.trans (Eq.refl _) (Eq.refl _)
end
/-! ### targets of several names -/
section
variable {env : Env} {K : Env → Prop}
theorem gT1 {x0 : D} {i0 : Nat} : DV.gTup 1 (DV.gCons (gN i0) DV.gNil) (.tup [x0]) env K ↔ K (env.set i0 (.val x0)) := by
  unfold DV.gTup
  exact ⟨fun h => h.2.2, fun h => ⟨rfl, rfl, h⟩⟩
theorem gT2 {x0 x1 : D} {i0 i1 : Nat} : DV.gTup 2 (DV.gCons (gN i0) (DV.gCons (gN i1) DV.gNil)) (.tup [x0, x1]) env K ↔ K ((env.set i0 (.val x0)).set i1 (.val x1)) := by
  unfold DV.gTup
  exact ⟨fun h => h.2.2, fun h => ⟨rfl, rfl, h⟩⟩
theorem gT3 {x0 x1 x2 : D} {i0 i1 i2 : Nat} : DV.gTup 3 (DV.gCons (gN i0) (DV.gCons (gN i1) (DV.gCons (gN i2) DV.gNil))) (.tup [x0, x1, x2]) env K ↔ K (((env.set i0 (.val x0)).set i1 (.val x1)).set i2 (.val x2)) := by
  unfold DV.gTup
  exact ⟨fun h => h.2.2, fun h => ⟨rfl, rfl, h⟩⟩
theorem gT4 {x0 x1 x2 x3 : D} {i0 i1 i2 i3 : Nat} : DV.gTup 4 (DV.gCons (gN i0) (DV.gCons (gN i1) (DV.gCons (gN i2) (DV.gCons (gN i3) DV.gNil)))) (.tup [x0, x1, x2, x3]) env K ↔ K ((((env.set i0 (.val x0)).set i1 (.val x1)).set i2 (.val x2)).set i3 (.val x3)) := by
  unfold DV.gTup
  exact ⟨fun h => h.2.2, fun h => ⟨rfl, rfl, h⟩⟩
theorem gT5 {x0 x1 x2 x3 x4 : D} {i0 i1 i2 i3 i4 : Nat} : DV.gTup 5 (DV.gCons (gN i0) (DV.gCons (gN i1) (DV.gCons (gN i2) (DV.gCons (gN i3) (DV.gCons (gN i4) DV.gNil))))) (.tup [x0, x1, x2, x3, x4]) env K ↔ K (((((env.set i0 (.val x0)).set i1 (.val x1)).set i2 (.val x2)).set i3 (.val x3)).set i4 (.val x4)) := by
  unfold DV.gTup
  exact ⟨fun h => h.2.2, fun h => ⟨rfl, rfl, h⟩⟩
theorem gT6 {x0 x1 x2 x3 x4 x5 : D} {i0 i1 i2 i3 i4 i5 : Nat} : DV.gTup 6 (DV.gCons (gN i0) (DV.gCons (gN i1) (DV.gCons (gN i2) (DV.gCons (gN i3) (DV.gCons (gN i4) (DV.gCons (gN i5) DV.gNil)))))) (.tup [x0, x1, x2, x3, x4, x5]) env K ↔ K ((((((env.set i0 (.val x0)).set i1 (.val x1)).set i2 (.val x2)).set i3 (.val x3)).set i4 (.val x4)).set i5 (.val x5)) := by
  unfold DV.gTup
  exact ⟨fun h => h.2.2, fun h => ⟨rfl, rfl, h⟩⟩
theorem gT7 {x0 x1 x2 x3 x4 x5 x6 : D} {i0 i1 i2 i3 i4 i5 i6 : Nat} : DV.gTup 7 (DV.gCons (gN i0) (DV.gCons (gN i1) (DV.gCons (gN i2) (DV.gCons (gN i3) (DV.gCons (gN i4) (DV.gCons (gN i5) (DV.gCons (gN i6) DV.gNil))))))) (.tup [x0, x1, x2, x3, x4, x5, x6]) env K ↔ K (((((((env.set i0 (.val x0)).set i1 (.val x1)).set i2 (.val x2)).set i3 (.val x3)).set i4 (.val x4)).set i5 (.val x5)).set i6 (.val x6)) := by
  unfold DV.gTup
  exact ⟨fun h => h.2.2, fun h => ⟨rfl, rfl, h⟩⟩
end
end DV

set_option Elab.async false
set_option linter.all false
set_option maxRecDepth 100000
namespace Law
open PySem PySem.Spec PyProof.Rows L2 DV
/-! the text by places -/
def top (i : Nat) : Stmt := PySem.Challenge.pw_checksigns_k37_whole_two_slips_and_stret.main.body.getD i (.Pass ⟨0, 0, 0, 0⟩)
abbrev s__law_hand : Stmt := top 19
abbrev s_power_rest : Stmt := top 10
abbrev s_is_integer : Stmt := top 5
abbrev s_is_within : Stmt := top 6
abbrev s_check_number : Stmt := top 7
abbrev s_check_fit : Stmt := top 14
abbrev s_unseen_one : Stmt := top 15
abbrev s__law_number : Stmt := top 22
abbrev s__law_draw : Stmt := top 20
abbrev s__law_is : Stmt := top 21
abbrev s__law_own_part : Stmt := top 25
abbrev s__law_power : Stmt := top 23
abbrev s_power : Stmt := top 9
abbrev s_common : Stmt := top 8
abbrev s_stretch_seen : Stmt := top 17
abbrev s__law_two : Stmt := top 24
abbrev s_unseen_two : Stmt := top 16
abbrev s__law_is_right : Stmt := top 26
abbrev s_law : Stmt := top 27
/-- what the module's names hold -/
structure Txt (mg : Str → Option Value) : Prop where
  b_abs : mg "abs" = none
  b_all : mg "all" = none
  b_bool : mg "bool" = none
  b_dict : mg "dict" = none
  b_int : mg "int" = none
  b_isinstance : mg "isinstance" = none
  b_len : mg "len" = none
  b_list : mg "list" = none
  b_range : mg "range" = none
  b_str : mg "str" = none
  b_tuple : mg "tuple" = none
  b_zip : mg "zip" = none
  c_MOST_BY : ∃ t, mg "MOST_BY" = some (.int 200 t)
  c_MOST_LONG : ∃ t, mg "MOST_LONG" = some (.int 24 t)
section
variable {P : Program} {w : World} {G : Pg} {mg : Str → Option Value} {base : Heap} {f : Addr} {fd : FuncData}
/-! ### _law_hand -/
theorem sc__law_hand : FnScope ["script", "cells", "cell"] ["script"] (defScope s__law_hand) := ⟨rfl, rfl, rfl, by decide +kernel, rfl, by decide +kernel, by decide +kernel⟩
def B__law_hand_2 : Ts := (wRetF (wLst (wCons (wVal 1) (wCons (wC (.int 0)) (wCons (wC (.int 0)) (wCons (wOp gAdd (wC (.int 313)) (wCB gLen (wCons (wLook 1) wNil))) (wCons (wC (.int 0)) wNil)))))))
def B__law_hand : Ts := (wSeq (wAsg (wF (wLc (wiSq (wSlc (wLook 0) wNoP (wPart (wC (.int 63))))) (gN 2) wYes (wCB gAbs (wCons (wCB gInt (wCons (wLook 2) wNil)) wNil)) [2])) (gN 1))
  B__law_hand_2)
theorem ok__law_hand (T : Txt mg) (hO : ∀ c C, G.CT c = some C → ObjCls G.K C) (F : Fun G.K "_law_hand" "_law_hand" s__law_hand f fd) (hB : ∀ (ns : List Int), ns.length ≤ 63 → ∀ Q : Post, (∀ (a : Addr) (cells : List Int) (seed : Int) (r : DV.Env), (∀ x ∈ cells, 0 ≤ x) → 0 ≤ seed → seed < 9223372036854775808 → Q.rf (.own a (handL cells 0 0 seed 0)) r) → B__law_hand (.val (.frz (ns.map D.int)) :: List.replicate (3 - 1) .no) Q) : FnOk P w G.K mg base (L2.CX P w) 1 f fd ["script"] (handSp G) := hand_fn F sc__law_hand rfl (by decide) (fun cdv A outer s H E S eS hr => by
  subst eS
  have nd := sc__law_hand.nd
  have hu65 : A.units + 3 + 65 < cLine := by have := hr.un; show _ < _; have e : (A.deeper (envOfC "_law_hand" (defScope s__law_hand) s.heap.objs.size f cdv)).units = A.units + 3 := rfl; omega
  exact (dss_cons (ds_valLc 1 rfl nd (di_sq mdB rfl (DB.of (dx_slc rfl (db_var 0) dp_none (dp_some (DB.of dx_int))))) (blkOk_by (own := [("cell", 2)]) (N := ["script", "cells", "cell"]) (sc := (defScope s__law_hand)) (by decide +kernel)) (fun _ _ _ _ _ => (dg_name 2 nd)) (fun _ _ _ _ _ => dif_nil) (fun _ _ _ _ _ => (dx_cb (cd_abs) T.b_abs (by decide +kernel) (da_cB (DB.of (dx_cty (cd_int) T.b_int (by decide +kernel) (da_cB (db_var 2) da_nil))) da_nil))) (sw_true rfl rfl rfl (by decide +kernel)))
  (dss_one (ds_retF (df_lst (da_cS (dx_var 1) (da_cS dx_int (da_cS dx_int (da_cS (dx_op (od_add rfl) (DB.of dx_int) (DB.of (dx_cb (cd_len rfl) T.b_len (by decide +kernel) (da_cB (db_var 1) da_nil)))) (da_cS dx_int da_nil)))))))))) hB
/-! ### power_rest -/
theorem sc_power_rest : FnScope ["base", "exponent", "by", "found", "turn"] ["base", "exponent", "by"] (defScope s_power_rest) := ⟨rfl, rfl, rfl, by decide +kernel, rfl, by decide +kernel, by decide +kernel⟩
def B_power_rest_4 : Ts := (wRet (wVal 3))
def B_power_rest_2 : Ts := (wSeq (wFor (wiR1 (wLook 1)) (gN 4) (wAsg (wOp gMod (wOp gMul (wLook 3) (wLook 0)) (wLook 2)) (gN 3)))
  B_power_rest_4)
def B_power_rest : Ts := (wSeq (wAsg (wOp gMod (wC (.int 1)) (wLook 2)) (gN 3))
  B_power_rest_2)
def T_power_rest : Fn := wFn 5 B_power_rest
theorem ok_power_rest (T : Txt mg) (hO : ∀ c C, G.CT c = some C → ObjCls G.K C) (F : Fun G.K "power_rest" "power_rest" s_power_rest f fd) : FnOk P w G.K mg base (L2.CX P w) 1 f fd ["base", "exponent", "by"] (spD G 3 T_power_rest) := fn_ok F sc_power_rest rfl (fun cdv A outer s H E S eS hr => by
  subst eS
  have nd := sc_power_rest.nd
  have hu65 : A.units + 3 + 65 < cLine := by have := hr.un; show _ < _; have e : (A.deeper (envOfC "power_rest" (defScope s_power_rest) s.heap.objs.size f cdv)).units = A.units + 3 := rfl; omega
  exact (dss_cons (ds_set 3 nd (dx_op (od_mod) (DB.of dx_int) (db_var 2)))
  (dss_cons (ds_for rfl (di_r1 T.b_range (db_var 1)) (dg_name 4 nd) (dss_one (ds_set 3 nd (dx_op (od_mod) (DB.of (dx_op (od_mul rfl) (db_var 3) (db_var 0))) (db_var 2)))))
  (dss_one (ds_ret (dx_var 3))))))
/-! ### is_integer -/
theorem sc_is_integer : FnScope ["thing"] ["thing"] (defScope s_is_integer) := ⟨rfl, rfl, rfl, by decide +kernel, rfl, by decide +kernel, by decide +kernel⟩
def B_is_integer : Ts := (wRet (wAndV (wIsT .int (wLook 0)) (wNotV (wIsT .bool (wLook 0)))))
def T_is_integer : Fn := wFn 1 B_is_integer
theorem ok_is_integer (T : Txt mg) (hO : ∀ c C, G.CT c = some C → ObjCls G.K C) (F : Fun G.K "is_integer" "is_integer" s_is_integer f fd) : FnOk P w G.K mg base (L2.CX P w) 1 f fd ["thing"] (spD G 1 T_is_integer) := fn_ok F sc_is_integer rfl (fun cdv A outer s H E S eS hr => by
  subst eS
  have nd := sc_is_integer.nd
  have hu65 : A.units + 3 + 65 < cLine := by have := hr.un; show _ < _; have e : (A.deeper (envOfC "is_integer" (defScope s_is_integer) s.heap.objs.size f cdv)).units = A.units + 3 := rfl; omega
  exact (dss_one (ds_ret (dx_and (dx_isT .int rfl hO T.b_isinstance (by decide +kernel) (db_var 0) T.b_int (by decide +kernel)) (dx_one (dx_not (dx_isT .bool rfl hO T.b_isinstance (by decide +kernel) (db_var 0) T.b_bool (by decide +kernel))))))))
/-! ### is_within -/
theorem sc_is_within : FnScope ["thing", "least", "most"] ["thing", "least", "most"] (defScope s_is_within) := ⟨rfl, rfl, rfl, by decide +kernel, rfl, by decide +kernel, by decide +kernel⟩
def B_is_within : Ts := (wRet (wAndV (wCall 1 T_is_integer (wCons (wVal 0) wNil)) (wChain gLe gLe (wLook 1) (wLook 0) (wLook 2))))
def T_is_within : Fn := wFn 3 B_is_within
theorem ok_is_within (T : Txt mg) (hO : ∀ c C, G.CT c = some C → ObjCls G.K C) (C_is_integer : Cal P w G mg base "is_integer" 1 1 T_is_integer) (F : Fun G.K "is_within" "is_within" s_is_within f fd) : FnOk P w G.K mg base (L2.CX P w) 2 f fd ["thing", "least", "most"] (spD G 3 T_is_within) := fn_ok F sc_is_within rfl (fun cdv A outer s H E S eS hr => by
  subst eS
  have nd := sc_is_within.nd
  have hu65 : A.units + 3 + 65 < cLine := by have := hr.un; show _ < _; have e : (A.deeper (envOfC "is_within" (defScope s_is_within) s.heap.objs.size f cdv)).units = A.units + 3 := rfl; omega
  exact (dss_one (ds_ret (dx_and (dx_call C_is_integer rfl (hr.mono (by decide)) (da_cS (dx_var 0) da_nil)) (dx_one (dx_chain (od_le) (od_le) (db_var 1) (db_var 0) (db_var 2)))))))
/-! ### check_number -/
theorem sc_check_number : FnScope ["thing", "least", "most"] ["thing", "least", "most"] (defScope s_check_number) := ⟨rfl, rfl, rfl, by decide +kernel, rfl, by decide +kernel, by decide +kernel⟩
def B_check_number : Ts := (wIfS (wNot (wTst (wCall 3 T_is_within (wCons (wVal 0) (wCons (wVal 1) (wCons (wVal 2) wNil)))))) wNever wSkip)
def T_check_number : Fn := wFn 3 B_check_number
theorem ok_check_number (T : Txt mg) (hO : ∀ c C, G.CT c = some C → ObjCls G.K C) (C_is_within : Cal P w G mg base "is_within" 2 3 T_is_within) (F : Fun G.K "check_number" "check_number" s_check_number f fd) : FnOk P w G.K mg base (L2.CX P w) 3 f fd ["thing", "least", "most"] (spD G 3 T_check_number) := fn_ok F sc_check_number rfl (fun cdv A outer s H E S eS hr => by
  subst eS
  have nd := sc_check_number.nd
  have hu65 : A.units + 3 + 65 < cLine := by have := hr.un; show _ < _; have e : (A.deeper (envOfC "check_number" (defScope s_check_number) s.heap.objs.size f cdv)).units = A.units + 3 := rfl; omega
  exact (dss_one (ds_if (dt_not (dt_val (dx_call C_is_within rfl (hr.mono (by decide)) (da_cS (dx_var 0) (da_cS (dx_var 1) (da_cS (dx_var 2) da_nil)))))) (dss_one ds_never) dss_nil)))
/-! ### check_fit -/
theorem sc_check_fit : FnScope ["base", "by"] ["base", "by"] (defScope s_check_fit) := ⟨rfl, rfl, rfl, by decide +kernel, rfl, by decide +kernel, by decide +kernel⟩
def B_check_fit_3 : Ts := (wIfS (wTst (wOp gGt (wLook 1) (wOp gMul (wLook 0) (wLook 0)))) wNever wSkip)
def B_check_fit_2 : Ts := (wSeq (wDrop (wCall 3 T_check_number (wCons (wVal 1) (wCons (wC (.int 2)) (wCons (wC (.int 200)) wNil)))))
  B_check_fit_3)
def B_check_fit : Ts := (wSeq (wDrop (wCall 3 T_check_number (wCons (wVal 0) (wCons (wC (.int 2)) (wCons (wC (.int 36)) wNil)))))
  B_check_fit_2)
def T_check_fit : Fn := wFn 2 B_check_fit
theorem ok_check_fit (T : Txt mg) (hO : ∀ c C, G.CT c = some C → ObjCls G.K C) (C_check_number : Cal P w G mg base "check_number" 3 3 T_check_number) (F : Fun G.K "check_fit" "check_fit" s_check_fit f fd) : FnOk P w G.K mg base (L2.CX P w) 4 f fd ["base", "by"] (spD G 2 T_check_fit) := fn_ok F sc_check_fit rfl (fun cdv A outer s H E S eS hr => by
  subst eS
  have nd := sc_check_fit.nd
  have hu65 : A.units + 3 + 65 < cLine := by have := hr.un; show _ < _; have e : (A.deeper (envOfC "check_fit" (defScope s_check_fit) s.heap.objs.size f cdv)).units = A.units + 3 := rfl; omega
  exact (dss_cons (ds_expr (dx_call C_check_number rfl (hr.mono (by decide)) (da_cS (dx_var 0) (da_cS dx_int (da_cS dx_int da_nil)))))
  (dss_cons (ds_expr (dx_call C_check_number rfl (hr.mono (by decide)) (da_cS (dx_var 1) (da_cS dx_int (da_cS (dx_globI T.c_MOST_BY) da_nil)))))
  (dss_one (ds_if (dt_cmp (od_gt) (db_var 1) (DB.of (dx_op (od_mul rfl) (db_var 0) (db_var 0))) (by first | exact nomark _ | rfl)) (dss_one ds_never) dss_nil)))))
/-! ### unseen_one -/
theorem sc_unseen_one : FnScope ["base", "by", "long", "place", "gap"] ["base", "by", "long"] (defScope s_unseen_one) := ⟨rfl, rfl, rfl, by decide +kernel, rfl, by decide +kernel, by decide +kernel⟩
def B_unseen_one_7 : Ts := (wRet (wTup (wCons (wC (.str "seen")) wNil)))
def B_unseen_one_5 : Ts := (wIfS (wTst (wOp gEq (wOp gMod (wOp gMul (wLook 4) (wCall 3 T_power_rest (wCons (wVal 0) (wCons (wVal 3) (wCons (wVal 1) wNil))))) (wLook 1)) (wC (.int 0)))) (wRet (wTup (wCons (wC (.str "place")) (wCons (wVal 3) (wCons (wVal 4) wNil))))) wSkip)
def B_unseen_one_4 : Ts := (wFor (wiR2 (wC (.int 1)) (wLook 0)) (gN 4) B_unseen_one_5)
def B_unseen_one_3 : Ts := (wSeq (wFor (wiR1 (wLook 2)) (gN 3) B_unseen_one_4)
  B_unseen_one_7)
def B_unseen_one_2 : Ts := (wSeq (wDrop (wCall 3 T_check_number (wCons (wVal 2) (wCons (wC (.int 1)) (wCons (wC (.int 24)) wNil)))))
  B_unseen_one_3)
def B_unseen_one : Ts := (wSeq (wDrop (wCall 2 T_check_fit (wCons (wVal 0) (wCons (wVal 1) wNil))))
  B_unseen_one_2)
def T_unseen_one : Fn := wFn 5 B_unseen_one
theorem ok_unseen_one (T : Txt mg) (hO : ∀ c C, G.CT c = some C → ObjCls G.K C) (C_power_rest : Cal P w G mg base "power_rest" 1 3 T_power_rest) (C_check_number : Cal P w G mg base "check_number" 3 3 T_check_number) (C_check_fit : Cal P w G mg base "check_fit" 4 2 T_check_fit) (F : Fun G.K "unseen_one" "unseen_one" s_unseen_one f fd) : FnOk P w G.K mg base (L2.CX P w) 5 f fd ["base", "by", "long"] (spD G 3 T_unseen_one) := fn_ok F sc_unseen_one rfl (fun cdv A outer s H E S eS hr => by
  subst eS
  have nd := sc_unseen_one.nd
  have hu65 : A.units + 3 + 65 < cLine := by have := hr.un; show _ < _; have e : (A.deeper (envOfC "unseen_one" (defScope s_unseen_one) s.heap.objs.size f cdv)).units = A.units + 3 := rfl; omega
  exact (dss_cons (ds_expr (dx_call C_check_fit rfl (hr.mono (by decide)) (da_cS (dx_var 0) (da_cS (dx_var 1) da_nil))))
  (dss_cons (ds_expr (dx_call C_check_number rfl (hr.mono (by decide)) (da_cS (dx_var 2) (da_cS dx_int (da_cS (dx_globI T.c_MOST_LONG) da_nil)))))
  (dss_cons (ds_for rfl (di_r1 T.b_range (db_var 2)) (dg_name 3 nd) (dss_one (ds_for rfl (di_r2 T.b_range (DB.of dx_int) (db_var 0)) (dg_name 4 nd) (dss_one (ds_if (dt_cmp (od_eq rfl hr.units) (DB.of (dx_op (od_mod) (DB.of (dx_op (od_mul rfl) (db_var 4) (DB.of (dx_call C_power_rest rfl (hr.mono (by decide)) (da_cS (dx_var 0) (da_cS (dx_var 3) (da_cS (dx_var 1) da_nil))))))) (db_var 1))) (DB.of dx_int) (by first | exact nomark _ | rfl)) (dss_one (ds_ret (dx_tup (da_cS dx_str (da_cS (dx_var 3) (da_cS (dx_var 4) da_nil)))))) dss_nil)))))
  (dss_one (ds_ret (dx_tup (da_cS dx_str da_nil))))))))
/-! ### _law_number -/
theorem sc__law_number : FnScope ["base", "word", "found", "sign"] ["base", "word"] (defScope s__law_number) := ⟨rfl, rfl, rfl, by decide +kernel, rfl, by decide +kernel, by decide +kernel⟩
def B__law_number_4 : Ts := (wRet (wVal 2))
def B__law_number_2 : Ts := (wSeq (wFor (wiSq (wVal 1)) (gN 3) (wAsg (wOp gAdd (wOp gMul (wLook 2) (wLook 0)) (wLook 3)) (gN 2)))
  B__law_number_4)
def B__law_number : Ts := (wSeq (wAsg (wC (.int 0)) (gN 2))
  B__law_number_2)
def T__law_number : Fn := wFn 4 B__law_number
theorem ok__law_number (T : Txt mg) (hO : ∀ c C, G.CT c = some C → ObjCls G.K C) (F : Fun G.K "_law_number" "_law_number" s__law_number f fd) : FnOk P w G.K mg base (L2.CX P w) 1 f fd ["base", "word"] (spD G 2 T__law_number) := fn_ok F sc__law_number rfl (fun cdv A outer s H E S eS hr => by
  subst eS
  have nd := sc__law_number.nd
  have hu65 : A.units + 3 + 65 < cLine := by have := hr.un; show _ < _; have e : (A.deeper (envOfC "_law_number" (defScope s__law_number) s.heap.objs.size f cdv)).units = A.units + 3 := rfl; omega
  exact (dss_cons (ds_set 2 nd dx_int)
  (dss_cons (ds_for rfl (di_sq mdS rfl (dx_var 1)) (dg_name 3 nd) (dss_one (ds_set 2 nd (dx_op (od_add rfl) (DB.of (dx_op (od_mul rfl) (db_var 2) (db_var 0))) (db_var 3)))))
  (dss_one (ds_ret (dx_var 2))))))
/-! ### _law_draw -/
theorem sc__law_draw : FnScope ["hand", "limit", "cell", "digit", "number"] ["hand", "limit"] (defScope s__law_draw) := ⟨rfl, rfl, rfl, by decide +kernel, rfl, by decide +kernel, by decide +kernel⟩
def B__law_draw_15 : Ts := (wRet (wOp gMod (wCB gInt (wCons (wOp gDiv (wLook 4) (wC (.int 16))) wNil)) (wLook 1)))
def B__law_draw_14 : Ts := (wSeq (wAsg (wOp gMod (wCB gInt (wCons (wOp gMul (wLook 4) (wOp gAdd (wOp gDiv (wLook 4) (wC (.int 2003))) (wC (.int 40692)))) wNil)) (wC (.int 2147483399))) (gN 4))
  B__law_draw_15)
def B__law_draw_13 : Ts := (wSeq (wAsg (wOp gMod (wCB gInt (wCons (wOp gMul (wLook 4) (wOp gAdd (wOp gDiv (wLook 4) (wC (.int 1009))) (wC (.int 69621)))) wNil)) (wC (.int 2147483647))) (gN 4))
  B__law_draw_14)
def B__law_draw_12 : Ts := (wSeq (wAsg (wOp gMod (wCB gInt (wCons (wOp gMul (wCB gInt (wCons (wOp gAdd (wOp gIx (wLook 0) (wC (.int 3))) (wOp gMul (wC (.int 7919)) (wOp gIx (wLook 0) (wC (.int 4))))) wNil)) (wC (.int 48271))) wNil)) (wC (.int 2147483647))) (gN 4))
  B__law_draw_13)
def B__law_draw_11 : Ts := (wSeq (wSetIx 0 (wOp gAdd (wOp gIx (wLook 0) (wC (.int 4))) (wC (.int 1))) (wC (.int 4)))
  B__law_draw_12)
def B__law_draw_10 : Ts := (wRet (wVal 3))
def B__law_draw_9 : Ts := (wSeq (wSetIx 0 (wOp gDiv (wOp gIx (wLook 0) (wC (.int 2))) (wLook 1)) (wC (.int 2)))
  B__law_draw_10)
def B__law_draw_8 : Ts := (wSeq (wAsg (wOp gMod (wCB gInt (wCons (wOp gIx (wLook 0) (wC (.int 2))) wNil)) (wLook 1)) (gN 3))
  B__law_draw_9)
def B__law_draw_7 : Ts := (wSeq (wIfS (wTst (wOp gGt (wOp gIx (wLook 0) (wC (.int 2))) (wC (.int 0)))) B__law_draw_8 wSkip)
  B__law_draw_11)
def B__law_draw_5 : Ts := (wIfS (wTst (wOp gGe (wLook 2) (wOp gPow (wC (.int 10)) (wC (.int 18))))) (wSetIx 0 (wVal 2) (wC (.int 2))) wSkip)
def B__law_draw_4 : Ts := (wSeq (wSetIx 0 (wOp gMod (wCB gInt (wCons (wOp gAdd (wOp gAdd (wOp gMul (wOp gIx (wLook 0) (wC (.int 3))) (wC (.int 69621))) (wLook 2)) (wC (.int 419))) wNil)) (wC (.int 2147483629))) (wC (.int 3)))
  B__law_draw_5)
def B__law_draw_3 : Ts := (wSeq (wSetIx 0 (wOp gAdd (wOp gIx (wLook 0) (wC (.int 1))) (wC (.int 1))) (wC (.int 1)))
  B__law_draw_4)
def B__law_draw_2 : Ts := (wSeq (wAsg (wOp gIx (wOp gIx (wLook 0) (wC (.int 0))) (wOp gIx (wLook 0) (wC (.int 1)))) (gN 2))
  B__law_draw_3)
def B__law_draw : Ts := (wSeq (wIfS (wAnd (wTst (wOp gEq (wOp gIx (wLook 0) (wC (.int 2))) (wC (.int 0)))) (wTst (wOp gLt (wOp gIx (wLook 0) (wC (.int 1))) (wCB gLen (wCons (wOp gIx (wLook 0) (wC (.int 0))) wNil))))) B__law_draw_2 wSkip)
  B__law_draw_7)
theorem ok__law_draw (T : Txt mg) (hO : ∀ c C, G.CT c = some C → ObjCls G.K C) (F : Fun G.K "_law_draw" "_law_draw" s__law_draw f fd) (hB : ∀ (h : Addr) (cells : List Int) (p : Nat) (big st cnt m : Int), (∀ x ∈ cells, 0 ≤ x) → 0 ≤ big → 0 ≤ st → 0 ≤ cnt → st < 9223372036854775808 → 0 < m → m < 1073741824 → ∀ Q : Post, (∀ (k : Int) (p' : Nat) (big' st' cnt' : Int) (r : DV.Env), 0 ≤ k → k < m → 0 ≤ big' → 0 ≤ st' → 0 ≤ cnt' → st' < 9223372036854775808 → Q.rt (.int k) (.own h (handL cells p' big' st' cnt') :: r)) → B__law_draw (.own h (handL cells p big st cnt) :: .val (.int m) :: List.replicate (5 - 2) .no) Q) : FnOk P w G.K mg base (L2.CX P w) 1 f fd ["hand", "limit"] (spD G 2 wDraw) := draw_fn F sc__law_draw rfl (by decide) (fun cdv A outer s H E S eS hr => by
  subst eS
  have nd := sc__law_draw.nd
  have hu65 : A.units + 3 + 65 < cLine := by have := hr.un; show _ < _; have e : (A.deeper (envOfC "_law_draw" (defScope s__law_draw) s.heap.objs.size f cdv)).units = A.units + 3 := rfl; omega
  exact (dss_cons (ds_if (DW.dt (dw_and (dt_cmp (od_eq rfl hr.units) (DB.of (dx_ix rfl (db_var 0) (DB.of dx_int))) (DB.of dx_int) (by first | exact nomark _ | rfl)) (dw_and1 (dt_cmp (od_lt) (DB.of (dx_ix rfl (db_var 0) (DB.of dx_int))) (DB.of (dx_cb (cd_len rfl) T.b_len (by decide +kernel) (da_cB (DB.of (dx_ix rfl (db_var 0) (DB.of dx_int))) da_nil))) (by first | exact nomark _ | rfl))))) (dss_cons (ds_set 2 nd (dx_ix rfl (DB.of (dx_ix rfl (db_var 0) (DB.of dx_int))) (DB.of (dx_ix rfl (db_var 0) (DB.of dx_int)))))
  (dss_cons (ds_setix 0 (dx_op (od_add rfl) (DB.of (dx_ix rfl (db_var 0) (DB.of dx_int))) (DB.of dx_int)) (DB.of dx_int))
  (dss_cons (ds_setix 0 (dx_op (od_mod) (DB.of (dx_cty (cd_int) T.b_int (by decide +kernel) (da_cB (DB.of (dx_op (od_add rfl) (DB.of (dx_op (od_add rfl) (DB.of (dx_op (od_mul rfl) (DB.of (dx_ix rfl (db_var 0) (DB.of dx_int))) (DB.of dx_int))) (db_var 2))) (DB.of dx_int))) da_nil))) (DB.of dx_int)) (DB.of dx_int))
  (dss_one (ds_if (dt_cmp (od_ge) (db_var 2) (DB.of (dx_op (od_pow) (DB.of dx_int) (DB.of dx_int))) (by first | exact nomark _ | rfl)) (dss_one (ds_setix 0 (dx_var 2) (DB.of dx_int))) dss_nil))))) dss_nil)
  (dss_cons (ds_if (dt_cmp (od_gt) (DB.of (dx_ix rfl (db_var 0) (DB.of dx_int))) (DB.of dx_int) (by first | exact nomark _ | rfl)) (dss_cons (ds_set 3 nd (dx_op (od_mod) (DB.of (dx_cty (cd_int) T.b_int (by decide +kernel) (da_cB (DB.of (dx_ix rfl (db_var 0) (DB.of dx_int))) da_nil))) (db_var 1)))
  (dss_cons (ds_setix 0 (dx_op (od_div) (DB.of (dx_ix rfl (db_var 0) (DB.of dx_int))) (db_var 1)) (DB.of dx_int))
  (dss_one (ds_ret (dx_var 3))))) dss_nil)
  (dss_cons (ds_setix 0 (dx_op (od_add rfl) (DB.of (dx_ix rfl (db_var 0) (DB.of dx_int))) (DB.of dx_int)) (DB.of dx_int))
  (dss_cons (ds_set 4 nd (dx_op (od_mod) (DB.of (dx_cty (cd_int) T.b_int (by decide +kernel) (da_cB (DB.of (dx_op (od_mul rfl) (DB.of (dx_cty (cd_int) T.b_int (by decide +kernel) (da_cB (DB.of (dx_op (od_add rfl) (DB.of (dx_ix rfl (db_var 0) (DB.of dx_int))) (DB.of (dx_op (od_mul rfl) (DB.of dx_int) (DB.of (dx_ix rfl (db_var 0) (DB.of dx_int))))))) da_nil))) (DB.of dx_int))) da_nil))) (DB.of dx_int)))
  (dss_cons (ds_set 4 nd (dx_op (od_mod) (DB.of (dx_cty (cd_int) T.b_int (by decide +kernel) (da_cB (DB.of (dx_op (od_mul rfl) (db_var 4) (DB.of (dx_op (od_add rfl) (DB.of (dx_op (od_div) (db_var 4) (DB.of dx_int))) (DB.of dx_int))))) da_nil))) (DB.of dx_int)))
  (dss_cons (ds_set 4 nd (dx_op (od_mod) (DB.of (dx_cty (cd_int) T.b_int (by decide +kernel) (da_cB (DB.of (dx_op (od_mul rfl) (db_var 4) (DB.of (dx_op (od_add rfl) (DB.of (dx_op (od_div) (db_var 4) (DB.of dx_int))) (DB.of dx_int))))) da_nil))) (DB.of dx_int)))
  (dss_one (ds_ret (dx_op (od_mod) (DB.of (dx_cty (cd_int) T.b_int (by decide +kernel) (da_cB (DB.of (dx_op (od_div) (db_var 4) (DB.of dx_int))) da_nil))) (db_var 1))))))))))) hB
/-! ### _law_is -/
theorem sc__law_is : FnScope ["thing", "due", "one", "its"] ["thing", "due"] (defScope s__law_is) := ⟨rfl, rfl, rfl, by decide +kernel, rfl, by decide +kernel, by decide +kernel⟩
def B__law_is_13 (T : Fn) : Ts := (wRet (wAndV (wIsT .int (wLook 0)) (wOp gEq (wLook 0) (wLook 1))))
def B__law_is_11 (T : Fn) : Ts := (wSeq (wIfS (wOr (wTst (wIsT .str (wLook 1))) (wTst (wIsT .str (wLook 0)))) (wRet (wAndV (wIsT .str (wLook 1)) (wAndV (wIsT .str (wLook 0)) (wOp gEq (wLook 0) (wLook 1))))) wSkip)
  (B__law_is_13 T))
def B__law_is_9 (T : Fn) : Ts := (wSeq (wIfS (wOr (wTst (wIsT .bool (wLook 1))) (wTst (wIsT .bool (wLook 0)))) (wRet (wAndV (wIsT .bool (wLook 1)) (wAndV (wIsT .bool (wLook 0)) (wOp gEq (wLook 0) (wLook 1))))) wSkip)
  (B__law_is_11 T))
def B__law_is_7 (T : Fn) : Ts := (wSeq (wIfS (wOr (wTst (wOp gIs (wLook 1) (wC .non))) (wTst (wOp gIs (wLook 0) (wC .non)))) (wRet (wAndV (wOp gIs (wLook 1) (wC .non)) (wOp gIs (wLook 0) (wC .non)))) wSkip)
  (B__law_is_9 T))
def B__law_is_5 (T : Fn) : Ts := (wSeq (wIfS (wOr (wTst (wIsT .dict (wLook 1))) (wTst (wIsT .dict (wLook 0)))) (wRet (wAndV (wIsT .dict (wLook 1)) (wAndV (wIsT .dict (wLook 0)) (wOp gEq (wLook 0) (wLook 1))))) wSkip)
  (B__law_is_7 T))
def B__law_is_4 (T : Fn) : Ts := (wRet (wAndV (wOp gEq (wCB gLen (wCons (wLook 0) wNil)) (wCB gLen (wCons (wLook 1) wNil))) (wCB gAll (wCons (wF (wLc (wiZip (wLook 0) (wLook 1)) (gTup 2 (gCons (gN 2) (gCons (gN 3) gNil))) wYes (wCall 2 T (wCons (wVal 2) (wCons (wVal 3) wNil))) [2, 3])) wNil))))
def B__law_is_2 (T : Fn) : Ts := (wSeq (wIfS (wOr (wTst (wOp gNe (wIsT .tuple (wLook 1)) (wIsT .tuple (wLook 0)))) (wTst (wOp gNe (wIsT .list (wLook 1)) (wIsT .list (wLook 0))))) (wRet (wC (.bl false))) wSkip)
  (B__law_is_4 T))
def B__law_is (T : Fn) : Ts := (wSeq (wIfS (wOr (wTst (wIsT .tuple (wLook 1))) (wTst (wIsT .list (wLook 1)))) (B__law_is_2 T) wSkip)
  (B__law_is_5 T))
def T__law_is : Nat → Fn
  | 0 => fun _ _ _ => False
  | n + 1 => wFn 4 (B__law_is (T__law_is n))
theorem ok__law_is (T : Txt mg) (hO : ∀ c C, G.CT c = some C → ObjCls G.K C) (F : Fun G.K "_law_is" "_law_is" s__law_is f fd) (mf : mg "_law_is" = some (.ref f)) (bf : L2.Binds G.K fd ["thing", "due"] []) : ∀ n : Nat, FnOk P w G.K mg base (L2.CX P w) (1 + n) f fd ["thing", "due"] (spD G 2 (T__law_is n))
  | 0 => ⟨fun vs H Q E h => by obtain ⟨_, _, _, _, hl, _⟩ := h; rw [hl]; rfl, fun A outer s H args us vs Q E hr e0 hb hv hs => by obtain ⟨_, _, _, _, _, _, _, _, _, z, _⟩ := hs; exact z.elim⟩
  | n + 1 => by
    have IH := ok__law_is T hO F mf bf n
    have C__law_is : Cal P w G mg base "_law_is" (1 + n) 2 (T__law_is n) := ⟨f, fd, ["thing", "due"], mf, F.kp, bf, IH⟩
    have e : 1 + (n + 1) = (1 + n) + 1 := by omega
    rw [e]
    exact fn_ok F sc__law_is rfl (fun cdv A outer s H E S eS hr => by
      subst eS
      have nd := sc__law_is.nd
      have hu65 : A.units + 3 + 65 < cLine := by have := hr.un; show _ < _; have e : (A.deeper (envOfC "_law_is" (defScope s__law_is) s.heap.objs.size f cdv)).units = A.units + 3 := rfl; omega
      exact (dss_cons (ds_if (DW.dt (dw_or (dt_val (dx_isT .tuple rfl hO T.b_isinstance (by decide +kernel) (db_var 1) T.b_tuple (by decide +kernel))) (dw_or1 (dt_val (dx_isT .list rfl hO T.b_isinstance (by decide +kernel) (db_var 1) T.b_list (by decide +kernel)))))) (dss_cons (ds_if (DW.dt (dw_or (dt_cmp (od_ne rfl hr.units) (DB.of (dx_isT .tuple rfl hO T.b_isinstance (by decide +kernel) (db_var 1) T.b_tuple (by decide +kernel))) (DB.of (dx_isT .tuple rfl hO T.b_isinstance (by decide +kernel) (db_var 0) T.b_tuple (by decide +kernel))) (by first | exact nomark _ | rfl)) (dw_or1 (dt_cmp (od_ne rfl hr.units) (DB.of (dx_isT .list rfl hO T.b_isinstance (by decide +kernel) (db_var 1) T.b_list (by decide +kernel))) (DB.of (dx_isT .list rfl hO T.b_isinstance (by decide +kernel) (db_var 0) T.b_list (by decide +kernel))) (by first | exact nomark _ | rfl))))) (dss_one (ds_ret dx_bl)) dss_nil)
      (dss_one (ds_ret (dx_and (dx_cmp (od_eq rfl hr.units) (DB.of (dx_cb (cd_len rfl) T.b_len (by decide +kernel) (da_cB (db_var 0) da_nil))) (DB.of (dx_cb (cd_len rfl) T.b_len (by decide +kernel) (da_cB (db_var 1) da_nil))) (by first | exact nomark _ | rfl)) (dx_one (dx_cb (cd_all rfl) T.b_all (by decide +kernel) (da_cB (DB.of (dx_f (df_lc rfl nd (di_zip mdB (fun h R t => RB.on h R t) rfl T.b_zip (db_var 0) (db_var 1)) (blkOk_by (own := [("one", 2), ("its", 3)]) (N := ["thing", "due", "one", "its"]) (sc := (defScope s__law_is)) (by decide +kernel)) (fun _ _ _ _ _ => (dg_tup rfl rfl (dgs_cons (dg_name 2 nd) (dgs_cons (dg_name 3 nd) dgs_nil)))) (fun _ _ _ _ _ => dif_nil) (fun _ _ _ _ _ => (dx_call C__law_is rfl (hr.mono (by omega)) (da_cS (dx_var 2) (da_cS (dx_var 3) da_nil))))))) da_nil))))))) dss_nil)
      (dss_cons (ds_if (DW.dt (dw_or (dt_val (dx_isT .dict rfl hO T.b_isinstance (by decide +kernel) (db_var 1) T.b_dict (by decide +kernel))) (dw_or1 (dt_val (dx_isT .dict rfl hO T.b_isinstance (by decide +kernel) (db_var 0) T.b_dict (by decide +kernel)))))) (dss_one (ds_ret (dx_and (dx_isT .dict rfl hO T.b_isinstance (by decide +kernel) (db_var 1) T.b_dict (by decide +kernel)) (dx_and (dx_isT .dict rfl hO T.b_isinstance (by decide +kernel) (db_var 0) T.b_dict (by decide +kernel)) (dx_one (dx_cmp (od_eq rfl hr.units) (db_var 0) (db_var 1) (by first | exact nomark _ | rfl))))))) dss_nil)
      (dss_cons (ds_if (DW.dt (dw_or (dt_cmp (od_is) (db_var 1) (DB.of dx_non) (by first | exact nomark _ | rfl)) (dw_or1 (dt_cmp (od_is) (db_var 0) (DB.of dx_non) (by first | exact nomark _ | rfl))))) (dss_one (ds_ret (dx_and (dx_cmp (od_is) (db_var 1) (DB.of dx_non) (by first | exact nomark _ | rfl)) (dx_one (dx_cmp (od_is) (db_var 0) (DB.of dx_non) (by first | exact nomark _ | rfl)))))) dss_nil)
      (dss_cons (ds_if (DW.dt (dw_or (dt_val (dx_isT .bool rfl hO T.b_isinstance (by decide +kernel) (db_var 1) T.b_bool (by decide +kernel))) (dw_or1 (dt_val (dx_isT .bool rfl hO T.b_isinstance (by decide +kernel) (db_var 0) T.b_bool (by decide +kernel)))))) (dss_one (ds_ret (dx_and (dx_isT .bool rfl hO T.b_isinstance (by decide +kernel) (db_var 1) T.b_bool (by decide +kernel)) (dx_and (dx_isT .bool rfl hO T.b_isinstance (by decide +kernel) (db_var 0) T.b_bool (by decide +kernel)) (dx_one (dx_cmp (od_eq rfl hr.units) (db_var 0) (db_var 1) (by first | exact nomark _ | rfl))))))) dss_nil)
      (dss_cons (ds_if (DW.dt (dw_or (dt_val (dx_isT .str rfl hO T.b_isinstance (by decide +kernel) (db_var 1) T.b_str (by decide +kernel))) (dw_or1 (dt_val (dx_isT .str rfl hO T.b_isinstance (by decide +kernel) (db_var 0) T.b_str (by decide +kernel)))))) (dss_one (ds_ret (dx_and (dx_isT .str rfl hO T.b_isinstance (by decide +kernel) (db_var 1) T.b_str (by decide +kernel)) (dx_and (dx_isT .str rfl hO T.b_isinstance (by decide +kernel) (db_var 0) T.b_str (by decide +kernel)) (dx_one (dx_cmp (od_eq rfl hr.units) (db_var 0) (db_var 1) (by first | exact nomark _ | rfl))))))) dss_nil)
      (dss_one (ds_ret (dx_and (dx_isT .int rfl hO T.b_isinstance (by decide +kernel) (db_var 0) T.b_int (by decide +kernel)) (dx_one (dx_cmp (od_eq rfl hr.units) (db_var 0) (db_var 1) (by first | exact nomark _ | rfl))))))))))))
/-! ### _law_own_part -/
theorem sc__law_own_part : FnScope ["base", "by", "found", "part"] ["base", "by"] (defScope s__law_own_part) := ⟨rfl, rfl, rfl, by decide +kernel, rfl, by decide +kernel, by decide +kernel⟩
def B__law_own_part_6 : Ts := (wRet (wVal 2))
def B__law_own_part_4 : Ts := (wWh (wTst (wOp gEq (wOp gMod (wCB gInt (wCons (wLook 2) wNil)) (wLook 3)) (wC (.int 0)))) (wAsg (wOp gDiv (wLook 2) (wLook 3)) (gN 2)))
def B__law_own_part_3 : Ts := (wIfS (wTst (wOp gEq (wOp gMod (wCB gInt (wCons (wLook 0) wNil)) (wLook 3)) (wC (.int 0)))) B__law_own_part_4 wSkip)
def B__law_own_part_2 : Ts := (wSeq (wFor (wiR2 (wC (.int 2)) (wOp gAdd (wLook 0) (wC (.int 1)))) (gN 3) B__law_own_part_3)
  B__law_own_part_6)
def B__law_own_part : Ts := (wSeq (wAsg (wVal 1) (gN 2))
  B__law_own_part_2)
def T__law_own_part : Fn := wFn 4 B__law_own_part
theorem ok__law_own_part (T : Txt mg) (hO : ∀ c C, G.CT c = some C → ObjCls G.K C) (F : Fun G.K "_law_own_part" "_law_own_part" s__law_own_part f fd) : FnOk P w G.K mg base (L2.CX P w) 1 f fd ["base", "by"] (spD G 2 T__law_own_part) := fn_ok F sc__law_own_part rfl (fun cdv A outer s H E S eS hr => by
  subst eS
  have nd := sc__law_own_part.nd
  have hu65 : A.units + 3 + 65 < cLine := by have := hr.un; show _ < _; have e : (A.deeper (envOfC "_law_own_part" (defScope s__law_own_part) s.heap.objs.size f cdv)).units = A.units + 3 := rfl; omega
  exact (dss_cons (ds_set 2 nd (dx_var 1))
  (dss_cons (ds_for rfl (di_r2 T.b_range (DB.of dx_int) (DB.of (dx_op (od_add rfl) (db_var 0) (DB.of dx_int)))) (dg_name 3 nd) (dss_one (ds_if (dt_cmp (od_eq rfl hr.units) (DB.of (dx_op (od_mod) (DB.of (dx_cty (cd_int) T.b_int (by decide +kernel) (da_cB (db_var 0) da_nil))) (db_var 3))) (DB.of dx_int) (by first | exact nomark _ | rfl)) (dss_one (ds_while (dt_cmp (od_eq rfl hr.units) (DB.of (dx_op (od_mod) (DB.of (dx_cty (cd_int) T.b_int (by decide +kernel) (da_cB (db_var 2) da_nil))) (db_var 3))) (DB.of dx_int) (by first | exact nomark _ | rfl)) (dss_one (ds_set 2 nd (dx_op (od_div) (db_var 2) (db_var 3)))))) dss_nil)))
  (dss_one (ds_ret (dx_var 2))))))
/-! ### _law_power -/
theorem sc__law_power : FnScope ["base", "many", "found", "turn"] ["base", "many"] (defScope s__law_power) := ⟨rfl, rfl, rfl, by decide +kernel, rfl, by decide +kernel, by decide +kernel⟩
def B__law_power_4 : Ts := (wRet (wVal 2))
def B__law_power_2 : Ts := (wSeq (wFor (wiR1 (wLook 1)) (gN 3) (wAsg (wOp gMul (wLook 2) (wLook 0)) (gN 2)))
  B__law_power_4)
def B__law_power : Ts := (wSeq (wAsg (wC (.int 1)) (gN 2))
  B__law_power_2)
def T__law_power : Fn := wFn 4 B__law_power
theorem ok__law_power (T : Txt mg) (hO : ∀ c C, G.CT c = some C → ObjCls G.K C) (F : Fun G.K "_law_power" "_law_power" s__law_power f fd) : FnOk P w G.K mg base (L2.CX P w) 1 f fd ["base", "many"] (spD G 2 T__law_power) := fn_ok F sc__law_power rfl (fun cdv A outer s H E S eS hr => by
  subst eS
  have nd := sc__law_power.nd
  have hu65 : A.units + 3 + 65 < cLine := by have := hr.un; show _ < _; have e : (A.deeper (envOfC "_law_power" (defScope s__law_power) s.heap.objs.size f cdv)).units = A.units + 3 := rfl; omega
  exact (dss_cons (ds_set 2 nd dx_int)
  (dss_cons (ds_for rfl (di_r1 T.b_range (db_var 1)) (dg_name 3 nd) (dss_one (ds_set 2 nd (dx_op (od_mul rfl) (db_var 2) (db_var 0)))))
  (dss_one (ds_ret (dx_var 2))))))
/-! ### power -/
theorem sc_power : FnScope ["base", "exponent", "found", "turn"] ["base", "exponent"] (defScope s_power) := ⟨rfl, rfl, rfl, by decide +kernel, rfl, by decide +kernel, by decide +kernel⟩
def B_power_4 : Ts := (wRet (wVal 2))
def B_power_2 : Ts := (wSeq (wFor (wiR1 (wLook 1)) (gN 3) (wAsg (wOp gMul (wLook 2) (wLook 0)) (gN 2)))
  B_power_4)
def B_power : Ts := (wSeq (wAsg (wC (.int 1)) (gN 2))
  B_power_2)
def T_power : Fn := wFn 4 B_power
theorem ok_power (T : Txt mg) (hO : ∀ c C, G.CT c = some C → ObjCls G.K C) (F : Fun G.K "power" "power" s_power f fd) : FnOk P w G.K mg base (L2.CX P w) 1 f fd ["base", "exponent"] (spD G 2 T_power) := fn_ok F sc_power rfl (fun cdv A outer s H E S eS hr => by
  subst eS
  have nd := sc_power.nd
  have hu65 : A.units + 3 + 65 < cLine := by have := hr.un; show _ < _; have e : (A.deeper (envOfC "power" (defScope s_power) s.heap.objs.size f cdv)).units = A.units + 3 := rfl; omega
  exact (dss_cons (ds_set 2 nd dx_int)
  (dss_cons (ds_for rfl (di_r1 T.b_range (db_var 1)) (dg_name 3 nd) (dss_one (ds_set 2 nd (dx_op (od_mul rfl) (db_var 2) (db_var 0)))))
  (dss_one (ds_ret (dx_var 2))))))
/-! ### common -/
theorem sc_common : FnScope ["one", "other"] ["one", "other"] (defScope s_common) := ⟨rfl, rfl, rfl, by decide +kernel, rfl, by decide +kernel, by decide +kernel⟩
def B_common_4 : Ts := (wRet (wVal 0))
def B_common_2 : Ts := (wSeq (wWh (wTst (wOp gNe (wLook 1) (wC (.int 0)))) (wPar (wV (wVal 1)) (wV (wOp gMod (wLook 0) (wLook 1))) 0 1))
  B_common_4)
def B_common : Ts := (wSeq (wPar (wV (wCB gAbs (wCons (wLook 0) wNil))) (wV (wCB gAbs (wCons (wLook 1) wNil))) 0 1)
  B_common_2)
def T_common : Fn := wFn 2 B_common
theorem ok_common (T : Txt mg) (hO : ∀ c C, G.CT c = some C → ObjCls G.K C) (F : Fun G.K "common" "common" s_common f fd) : FnOk P w G.K mg base (L2.CX P w) 1 f fd ["one", "other"] (spD G 2 T_common) := fn_ok F sc_common rfl (fun cdv A outer s H E S eS hr => by
  subst eS
  have nd := sc_common.nd
  have hu65 : A.units + 3 + 65 < cLine := by have := hr.un; show _ < _; have e : (A.deeper (envOfC "common" (defScope s_common) s.heap.objs.size f cdv)).units = A.units + 3 := rfl; omega
  exact (dss_cons (ds_par 0 1 rfl nd (do_v (dx_cb (cd_abs) T.b_abs (by decide +kernel) (da_cB (db_var 0) da_nil))) (do_v (dx_cb (cd_abs) T.b_abs (by decide +kernel) (da_cB (db_var 1) da_nil))) (by rfl))
  (dss_cons (ds_while (dt_cmp (od_ne rfl hr.units) (db_var 1) (DB.of dx_int) (by first | exact nomark _ | rfl)) (dss_one (ds_par 0 1 rfl nd (do_v (dx_var 1)) (do_v (dx_op (od_mod) (db_var 0) (db_var 1))) (by rfl))))
  (dss_one (ds_ret (dx_var 0))))))
/-! ### stretch_seen -/
theorem sc_stretch_seen : FnScope ["base", "by", "wide", "left"] ["base", "by", "wide"] (defScope s_stretch_seen) := ⟨rfl, rfl, rfl, by decide +kernel, rfl, by decide +kernel, by decide +kernel⟩
def B_stretch_seen_6 : Ts := (wRet (wOp gGe (wLook 3) (wCall 2 T_power (wCons (wVal 0) (wCons (wVal 2) wNil)))))
def B_stretch_seen_4 : Ts := (wSeq (wWh (wTst (wOp gGt (wCall 2 T_common (wCons (wVal 3) (wCons (wVal 0) wNil))) (wC (.int 1)))) (wAsg (wOp gDiv (wLook 3) (wCall 2 T_common (wCons (wVal 3) (wCons (wVal 0) wNil)))) (gN 3)))
  B_stretch_seen_6)
def B_stretch_seen_3 : Ts := (wSeq (wAsg (wVal 1) (gN 3))
  B_stretch_seen_4)
def B_stretch_seen_2 : Ts := (wSeq (wDrop (wCall 3 T_check_number (wCons (wVal 2) (wCons (wC (.int 1)) (wCons (wC (.int 4)) wNil)))))
  B_stretch_seen_3)
def B_stretch_seen : Ts := (wSeq (wDrop (wCall 2 T_check_fit (wCons (wVal 0) (wCons (wVal 1) wNil))))
  B_stretch_seen_2)
def T_stretch_seen : Fn := wFn 4 B_stretch_seen
theorem ok_stretch_seen (T : Txt mg) (hO : ∀ c C, G.CT c = some C → ObjCls G.K C) (C_power : Cal P w G mg base "power" 1 2 T_power) (C_common : Cal P w G mg base "common" 1 2 T_common) (C_check_number : Cal P w G mg base "check_number" 3 3 T_check_number) (C_check_fit : Cal P w G mg base "check_fit" 4 2 T_check_fit) (F : Fun G.K "stretch_seen" "stretch_seen" s_stretch_seen f fd) : FnOk P w G.K mg base (L2.CX P w) 5 f fd ["base", "by", "wide"] (spD G 3 T_stretch_seen) := fn_ok F sc_stretch_seen rfl (fun cdv A outer s H E S eS hr => by
  subst eS
  have nd := sc_stretch_seen.nd
  have hu65 : A.units + 3 + 65 < cLine := by have := hr.un; show _ < _; have e : (A.deeper (envOfC "stretch_seen" (defScope s_stretch_seen) s.heap.objs.size f cdv)).units = A.units + 3 := rfl; omega
  exact (dss_cons (ds_expr (dx_call C_check_fit rfl (hr.mono (by decide)) (da_cS (dx_var 0) (da_cS (dx_var 1) da_nil))))
  (dss_cons (ds_expr (dx_call C_check_number rfl (hr.mono (by decide)) (da_cS (dx_var 2) (da_cS dx_int (da_cS dx_int da_nil)))))
  (dss_cons (ds_set 3 nd (dx_var 1))
  (dss_cons (ds_while (dt_cmp (od_gt) (DB.of (dx_call C_common rfl (hr.mono (by decide)) (da_cS (dx_var 3) (da_cS (dx_var 0) da_nil)))) (DB.of dx_int) (by first | exact nomark _ | rfl)) (dss_one (ds_set 3 nd (dx_op (od_div) (db_var 3) (DB.of (dx_call C_common rfl (hr.mono (by decide)) (da_cS (dx_var 3) (da_cS (dx_var 0) da_nil))))))))
  (dss_one (ds_ret (dx_cmp (od_ge) (db_var 3) (DB.of (dx_call C_power rfl (hr.mono (by decide)) (da_cS (dx_var 0) (da_cS (dx_var 2) da_nil)))) (by first | exact nomark _ | rfl)))))))))
/-! ### _law_two -/
theorem sc__law_two : FnScope ["base", "by", "long_now", "sizes", "q", "p", "a", "first", "some", "size", "b"] ["base", "by", "long_now"] (defScope s__law_two) := ⟨rfl, rfl, rfl, by decide +kernel, rfl, by decide +kernel, by decide +kernel⟩
def B__law_two_9 : Ts := (wRet (wTup (wCons (wC (.str "seen")) wNil)))
def B__law_two_7 : Ts := (wIfS (wTst (wOp gGt (wCB gLen (wCons (wLook 8) wNil)) (wC (.int 0)))) (wRet (wTup (wCons (wC (.str "places")) (wCons (wVal 5) (wCons (wVal 4) (wCons (wVal 6) (wCons (wOp gIx (wLook 8) (wC (.int 0))) wNil))))))) wSkip)
def B__law_two_6 : Ts := (wSeq (wAsg (wF (wLc (wiSq (wLook 3)) (gN 10) (wTst (wOp gEq (wOp gMod (wCB gInt (wCons (wOp gAdd (wLook 7) (wOp gMul (wLook 10) (wCall 2 T__law_power (wCons (wVal 0) (wCons (wVal 4) wNil))))) wNil)) (wLook 1)) (wC (.int 0)))) (wVal 10) [10])) (gN 8))
  B__law_two_7)
def B__law_two_5 : Ts := (wSeq (wAsg (wOp gMul (wLook 6) (wCall 2 T__law_power (wCons (wVal 0) (wCons (wVal 5) wNil)))) (gN 7))
  B__law_two_6)
def B__law_two_4 : Ts := (wFor (wiR2 (wC (.int 1)) (wLook 0)) (gN 6) B__law_two_5)
def B__law_two_3 : Ts := (wFor (wiR1 (wLook 4)) (gN 5) B__law_two_4)
def B__law_two_2 : Ts := (wSeq (wFor (wiR1 (wLook 2)) (gN 4) B__law_two_3)
  B__law_two_9)
def B__law_two : Ts := (wSeq (wAsg (wF (wLc (wiR2 (wOp gSub (wC (.int 1)) (wLook 0)) (wLook 0)) (gN 9) (wTst (wOp gNe (wLook 9) (wC (.int 0)))) (wVal 9) [9])) (gN 3))
  B__law_two_2)
def T__law_two : Fn := wFn 11 B__law_two
theorem ok__law_two (T : Txt mg) (hO : ∀ c C, G.CT c = some C → ObjCls G.K C) (C__law_power : Cal P w G mg base "_law_power" 1 2 T__law_power) (F : Fun G.K "_law_two" "_law_two" s__law_two f fd) : FnOk P w G.K mg base (L2.CX P w) 2 f fd ["base", "by", "long_now"] (spD G 3 T__law_two) := fn_ok F sc__law_two rfl (fun cdv A outer s H E S eS hr => by
  subst eS
  have nd := sc__law_two.nd
  have hu65 : A.units + 3 + 65 < cLine := by have := hr.un; show _ < _; have e : (A.deeper (envOfC "_law_two" (defScope s__law_two) s.heap.objs.size f cdv)).units = A.units + 3 := rfl; omega
  exact (dss_cons (ds_valLc 3 rfl nd (di_r2 T.b_range (DB.of (dx_op (od_sub) (DB.of dx_int) (db_var 0))) (db_var 0)) (blkOk_by (own := [("size", 9)]) (N := ["base", "by", "long_now", "sizes", "q", "p", "a", "first", "some", "size", "b"]) (sc := (defScope s__law_two)) (by decide +kernel)) (fun _ _ _ _ _ => (dg_name 9 nd)) (fun _ _ _ _ _ => (dif_one (dt_cmp (od_ne rfl hr.units) (db_var 9) (DB.of dx_int) (by first | exact nomark _ | rfl)))) (fun _ _ _ _ _ => (dx_var 9)) (sw_true rfl rfl rfl (by decide +kernel)))
  (dss_cons (ds_for rfl (di_r1 T.b_range (db_var 2)) (dg_name 4 nd) (dss_one (ds_for rfl (di_r1 T.b_range (db_var 4)) (dg_name 5 nd) (dss_one (ds_for rfl (di_r2 T.b_range (DB.of dx_int) (db_var 0)) (dg_name 6 nd) (dss_cons (ds_set 7 nd (dx_op (od_mul rfl) (db_var 6) (DB.of (dx_call C__law_power rfl (hr.mono (by decide)) (da_cS (dx_var 0) (da_cS (dx_var 5) da_nil))))))
  (dss_cons (ds_valLc 8 rfl nd (di_sq mdB rfl (db_var 3)) (blkOk_by (own := [("b", 10)]) (N := ["base", "by", "long_now", "sizes", "q", "p", "a", "first", "some", "size", "b"]) (sc := (defScope s__law_two)) (by decide +kernel)) (fun _ _ _ _ _ => (dg_name 10 nd)) (fun _ _ _ _ _ => (dif_one (dt_cmp (od_eq rfl hr.units) (DB.of (dx_op (od_mod) (DB.of (dx_cty (cd_int) T.b_int (by decide +kernel) (da_cB (DB.of (dx_op (od_add rfl) (db_var 7) (DB.of (dx_op (od_mul rfl) (db_var 10) (DB.of (dx_call C__law_power rfl (hr.mono (by decide)) (da_cS (dx_var 0) (da_cS (dx_var 4) da_nil)))))))) da_nil))) (db_var 1))) (DB.of dx_int) (by first | exact nomark _ | rfl)))) (fun _ _ _ _ _ => (dx_var 10)) (sw_true rfl rfl rfl (by decide +kernel)))
  (dss_one (ds_if (dt_cmp (od_gt) (DB.of (dx_cb (cd_len rfl) T.b_len (by decide +kernel) (da_cB (db_var 8) da_nil))) (DB.of dx_int) (by first | exact nomark _ | rfl)) (dss_one (ds_ret (dx_tup (da_cS dx_str (da_cS (dx_var 5) (da_cS (dx_var 4) (da_cS (dx_var 6) (da_cS (dx_ix rfl (db_var 8) (DB.of dx_int)) da_nil)))))))) dss_nil)))))))))
  (dss_one (ds_ret (dx_tup (da_cS dx_str da_nil)))))))
/-! ### unseen_two -/
theorem sc_unseen_two : FnScope ["base", "by", "long", "q", "p", "a", "b"] ["base", "by", "long"] (defScope s_unseen_two) := ⟨rfl, rfl, rfl, by decide +kernel, rfl, by decide +kernel, by decide +kernel⟩
def B_unseen_two_9 : Ts := (wRet (wTup (wCons (wC (.str "seen")) wNil)))
def B_unseen_two_7 : Ts := (wIfS (wAnd (wTst (wOp gNe (wLook 6) (wC (.int 0)))) (wTst (wOp gEq (wOp gMod (wOp gAdd (wOp gMul (wLook 5) (wCall 3 T_power_rest (wCons (wVal 0) (wCons (wVal 4) (wCons (wVal 1) wNil))))) (wOp gMul (wLook 6) (wCall 3 T_power_rest (wCons (wVal 0) (wCons (wVal 3) (wCons (wVal 1) wNil)))))) (wLook 1)) (wC (.int 0))))) (wRet (wTup (wCons (wC (.str "places")) (wCons (wVal 4) (wCons (wVal 3) (wCons (wVal 5) (wCons (wVal 6) wNil))))))) wSkip)
def B_unseen_two_6 : Ts := (wFor (wiR2 (wOp gSub (wC (.int 1)) (wLook 0)) (wLook 0)) (gN 6) B_unseen_two_7)
def B_unseen_two_5 : Ts := (wFor (wiR2 (wC (.int 1)) (wLook 0)) (gN 5) B_unseen_two_6)
def B_unseen_two_4 : Ts := (wFor (wiR1 (wLook 3)) (gN 4) B_unseen_two_5)
def B_unseen_two_3 : Ts := (wSeq (wFor (wiR1 (wLook 2)) (gN 3) B_unseen_two_4)
  B_unseen_two_9)
def B_unseen_two_2 : Ts := (wSeq (wDrop (wCall 3 T_check_number (wCons (wVal 2) (wCons (wC (.int 1)) (wCons (wC (.int 24)) wNil)))))
  B_unseen_two_3)
def B_unseen_two : Ts := (wSeq (wDrop (wCall 2 T_check_fit (wCons (wVal 0) (wCons (wVal 1) wNil))))
  B_unseen_two_2)
def T_unseen_two : Fn := wFn 7 B_unseen_two
theorem ok_unseen_two (T : Txt mg) (hO : ∀ c C, G.CT c = some C → ObjCls G.K C) (C_power_rest : Cal P w G mg base "power_rest" 1 3 T_power_rest) (C_check_number : Cal P w G mg base "check_number" 3 3 T_check_number) (C_check_fit : Cal P w G mg base "check_fit" 4 2 T_check_fit) (F : Fun G.K "unseen_two" "unseen_two" s_unseen_two f fd) : FnOk P w G.K mg base (L2.CX P w) 5 f fd ["base", "by", "long"] (spD G 3 T_unseen_two) := fn_ok F sc_unseen_two rfl (fun cdv A outer s H E S eS hr => by
  subst eS
  have nd := sc_unseen_two.nd
  have hu65 : A.units + 3 + 65 < cLine := by have := hr.un; show _ < _; have e : (A.deeper (envOfC "unseen_two" (defScope s_unseen_two) s.heap.objs.size f cdv)).units = A.units + 3 := rfl; omega
  exact (dss_cons (ds_expr (dx_call C_check_fit rfl (hr.mono (by decide)) (da_cS (dx_var 0) (da_cS (dx_var 1) da_nil))))
  (dss_cons (ds_expr (dx_call C_check_number rfl (hr.mono (by decide)) (da_cS (dx_var 2) (da_cS dx_int (da_cS (dx_globI T.c_MOST_LONG) da_nil)))))
  (dss_cons (ds_for rfl (di_r1 T.b_range (db_var 2)) (dg_name 3 nd) (dss_one (ds_for rfl (di_r1 T.b_range (db_var 3)) (dg_name 4 nd) (dss_one (ds_for rfl (di_r2 T.b_range (DB.of dx_int) (db_var 0)) (dg_name 5 nd) (dss_one (ds_for rfl (di_r2 T.b_range (DB.of (dx_op (od_sub) (DB.of dx_int) (db_var 0))) (db_var 0)) (dg_name 6 nd) (dss_one (ds_if (DW.dt (dw_and (dt_cmp (od_ne rfl hr.units) (db_var 6) (DB.of dx_int) (by first | exact nomark _ | rfl)) (dw_and1 (dt_cmp (od_eq rfl hr.units) (DB.of (dx_op (od_mod) (DB.of (dx_op (od_add rfl) (DB.of (dx_op (od_mul rfl) (db_var 5) (DB.of (dx_call C_power_rest rfl (hr.mono (by decide)) (da_cS (dx_var 0) (da_cS (dx_var 4) (da_cS (dx_var 1) da_nil))))))) (DB.of (dx_op (od_mul rfl) (db_var 6) (DB.of (dx_call C_power_rest rfl (hr.mono (by decide)) (da_cS (dx_var 0) (da_cS (dx_var 3) (da_cS (dx_var 1) da_nil))))))))) (db_var 1))) (DB.of dx_int) (by first | exact nomark _ | rfl))))) (dss_one (ds_ret (dx_tup (da_cS dx_str (da_cS (dx_var 4) (da_cS (dx_var 3) (da_cS (dx_var 5) (da_cS (dx_var 6) da_nil)))))))) dss_nil)))))))))
  (dss_one (ds_ret (dx_tup (da_cS dx_str da_nil))))))))
/-! ### _law_is_right -/
theorem sc__law_is_right : FnScope ["hand", "base", "by", "long_now", "told", "p", "q", "a", "b", "wide", "is_seen", "word", "at", "other", "is_same", "sign"] ["hand"] (defScope s__law_is_right) := ⟨rfl, rfl, rfl, by decide +kernel, rfl, by decide +kernel, by decide +kernel⟩
def B__law_is_right_21 : Ts := (wRet (wOrV (wNotV (wVal 10)) (wOp gEq (wCall 3 T_unseen_one (wCons (wVal 1) (wCons (wVal 2) (wCons (wC (.int 6)) wNil)))) (wTup (wCons (wC (.str "seen")) wNil)))))
def B__law_is_right_19 : Ts := (wSeq (wIfS (wAnd (wTst (wVal 10)) (wTst (wOp gNe (wLook 14) (wOp gEq (wLook 11) (wLook 13))))) (wRet (wC (.bl false))) wSkip)
  B__law_is_right_21)
def B__law_is_right_18 : Ts := (wSeq (wAsg (wOp gEq (wOp gMod (wCB gInt (wCons (wCall 2 T__law_number (wCons (wVal 1) (wCons (wVal 11) wNil))) wNil)) (wLook 2)) (wOp gMod (wCB gInt (wCons (wCall 2 T__law_number (wCons (wVal 1) (wCons (wVal 13) wNil))) wNil)) (wLook 2))) (gN 14))
  B__law_is_right_19)
def B__law_is_right_17 : Ts := (wSeq (wAsg (wOp gAdd (wOp gAdd (wSlc (wLook 11) wNoP (wPart (wLook 12))) (wF (wLc (wiR1 (wLook 9)) (gN 15) wYes (wCall 2 wDraw (wCons (wVal 0) (wCons (wVal 1) wNil))) [15]))) (wSlc (wLook 11) (wPart (wOp gAdd (wLook 12) (wLook 9))) wNoP)) (gN 13))
  B__law_is_right_18)
def B__law_is_right_16 : Ts := (wSeq (wAsg (wCall 2 wDraw (wCons (wVal 0) (wCons (wOp gAdd (wOp gSub (wLook 3) (wLook 9)) (wC (.int 1))) wNil))) (gN 12))
  B__law_is_right_17)
def B__law_is_right_15 : Ts := (wSeq (wAsg (wF (wLc (wiR1 (wLook 3)) (gN 15) wYes (wCall 2 wDraw (wCons (wVal 0) (wCons (wVal 1) wNil))) [15])) (gN 11))
  B__law_is_right_16)
def B__law_is_right_14 : Ts := (wSeq (wAsg (wOp gAdd (wLook 9) (wCall 2 wDraw (wCons (wVal 0) (wCons (wC (.int 5)) wNil)))) (gN 3))
  B__law_is_right_15)
def B__law_is_right_12 : Ts := (wSeq (wIfS (wNot (wTst (wCall 2 (T__law_is 3) (wCons (wVal 10) (wCons (wOp gGe (wCall 2 T__law_own_part (wCons (wVal 1) (wCons (wVal 2) wNil))) (wCall 2 T__law_power (wCons (wVal 1) (wCons (wVal 9) wNil)))) wNil))))) (wRet (wC (.bl false))) wSkip)
  B__law_is_right_14)
def B__law_is_right_11 : Ts := (wSeq (wAsg (wCall 3 T_stretch_seen (wCons (wVal 1) (wCons (wVal 2) (wCons (wVal 9) wNil)))) (gN 10))
  B__law_is_right_12)
def B__law_is_right_10 : Ts := (wSeq (wAsg (wOp gAdd (wC (.int 1)) (wCall 2 wDraw (wCons (wVal 0) (wCons (wC (.int 4)) wNil)))) (gN 9))
  B__law_is_right_11)
def B__law_is_right_8 : Ts := (wIfS (wTst (wOp gNe (wOp gMod (wCB gInt (wCons (wOp gAdd (wOp gMul (wLook 7) (wCall 2 T__law_power (wCons (wVal 1) (wCons (wVal 5) wNil)))) (wOp gMul (wLook 8) (wCall 2 T__law_power (wCons (wVal 1) (wCons (wVal 6) wNil))))) wNil)) (wLook 2)) (wC (.int 0)))) (wRet (wC (.bl false))) wSkip)
def B__law_is_right_7 : Ts := (wSeq (wAsg (wSlc (wLook 4) (wPart (wC (.int 1))) wNoP) (gTup 4 (gCons (gN 5) (gCons (gN 6) (gCons (gN 7) (gCons (gN 8) gNil))))))
  B__law_is_right_8)
def B__law_is_right_6 : Ts := (wSeq (wIfS (wTst (wOp gEq (wOp gIx (wLook 4) (wC (.int 0))) (wC (.str "places")))) B__law_is_right_7 wSkip)
  B__law_is_right_10)
def B__law_is_right_4 : Ts := (wSeq (wIfS (wNot (wTst (wCall 2 (T__law_is 3) (wCons (wVal 4) (wCons (wCall 3 T__law_two (wCons (wVal 1) (wCons (wVal 2) (wCons (wVal 3) wNil)))) wNil))))) (wRet (wC (.bl false))) wSkip)
  B__law_is_right_6)
def B__law_is_right_3 : Ts := (wSeq (wAsg (wCall 3 T_unseen_two (wCons (wVal 1) (wCons (wVal 2) (wCons (wVal 3) wNil)))) (gN 4))
  B__law_is_right_4)
def B__law_is_right_2 : Ts := (wSeq (wPar (wV (wOp gAdd (wC (.int 2)) (wCall 2 wDraw (wCons (wVal 0) (wCons (wOp gSub (wOp gMul (wLook 1) (wLook 1)) (wC (.int 1))) wNil))))) (wV (wOp gAdd (wC (.int 2)) (wCall 2 wDraw (wCons (wVal 0) (wCons (wC (.int 4)) wNil))))) 2 3)
  B__law_is_right_3)
def B__law_is_right : Ts := (wSeq (wAsg (wOp gAdd (wC (.int 2)) (wCall 2 wDraw (wCons (wVal 0) (wCons (wC (.int 6)) wNil)))) (gN 1))
  B__law_is_right_2)
def T__law_is_right : Fn := wFn 16 B__law_is_right
theorem ok__law_is_right (T : Txt mg) (hO : ∀ c C, G.CT c = some C → ObjCls G.K C) (C_unseen_one : Cal P w G mg base "unseen_one" 5 3 T_unseen_one) (C__law_number : Cal P w G mg base "_law_number" 1 2 T__law_number) (C__law_draw : Cal P w G mg base "_law_draw" 1 2 wDraw) (C__law_is : Cal P w G mg base "_law_is" 4 2 (T__law_is 3)) (C__law_own_part : Cal P w G mg base "_law_own_part" 1 2 T__law_own_part) (C__law_power : Cal P w G mg base "_law_power" 1 2 T__law_power) (C_stretch_seen : Cal P w G mg base "stretch_seen" 5 3 T_stretch_seen) (C__law_two : Cal P w G mg base "_law_two" 2 3 T__law_two) (C_unseen_two : Cal P w G mg base "unseen_two" 5 3 T_unseen_two) (F : Fun G.K "_law_is_right" "_law_is_right" s__law_is_right f fd) : FnOk P w G.K mg base (L2.CX P w) 6 f fd ["hand"] (spD G 1 T__law_is_right) := fn_ok F sc__law_is_right rfl (fun cdv A outer s H E S eS hr => by
  subst eS
  have nd := sc__law_is_right.nd
  have hu65 : A.units + 3 + 65 < cLine := by have := hr.un; show _ < _; have e : (A.deeper (envOfC "_law_is_right" (defScope s__law_is_right) s.heap.objs.size f cdv)).units = A.units + 3 := rfl; omega
  exact (dss_cons (ds_set 1 nd (dx_op (od_add rfl) (DB.of dx_int) (DB.of (dx_call C__law_draw rfl (hr.mono (by decide)) (da_cS (dx_var 0) (da_cS dx_int da_nil))))))
  (dss_cons (ds_par 2 3 rfl nd (do_v (dx_op (od_add rfl) (DB.of dx_int) (DB.of (dx_call C__law_draw rfl (hr.mono (by decide)) (da_cS (dx_var 0) (da_cS (dx_op (od_sub) (DB.of (dx_op (od_mul rfl) (db_var 1) (db_var 1))) (DB.of dx_int)) da_nil)))))) (do_v (dx_op (od_add rfl) (DB.of dx_int) (DB.of (dx_call C__law_draw rfl (hr.mono (by decide)) (da_cS (dx_var 0) (da_cS dx_int da_nil)))))) (by rfl))
  (dss_cons (ds_set 4 nd (dx_call C_unseen_two rfl (hr.mono (by decide)) (da_cS (dx_var 1) (da_cS (dx_var 2) (da_cS (dx_var 3) da_nil)))))
  (dss_cons (ds_if (dt_not (dt_val (dx_call C__law_is rfl (hr.mono (by decide)) (da_cS (dx_var 4) (da_cS (dx_call C__law_two rfl (hr.mono (by decide)) (da_cS (dx_var 1) (da_cS (dx_var 2) (da_cS (dx_var 3) da_nil)))) da_nil))))) (dss_one (ds_ret dx_bl)) dss_nil)
  (dss_cons (ds_if (dt_cmp (od_eq rfl hr.units) (DB.of (dx_ix rfl (db_var 4) (DB.of dx_int))) (DB.of dx_str) (by first | exact nomark _ | rfl)) (dss_cons (ds_asg (dx_slc rfl (db_var 4) (dp_some (DB.of dx_int)) dp_none) (dg_tup rfl rfl (dgs_cons (dg_name 5 nd) (dgs_cons (dg_name 6 nd) (dgs_cons (dg_name 7 nd) (dgs_cons (dg_name 8 nd) dgs_nil))))))
  (dss_one (ds_if (dt_cmp (od_ne rfl hr.units) (DB.of (dx_op (od_mod) (DB.of (dx_cty (cd_int) T.b_int (by decide +kernel) (da_cB (DB.of (dx_op (od_add rfl) (DB.of (dx_op (od_mul rfl) (db_var 7) (DB.of (dx_call C__law_power rfl (hr.mono (by decide)) (da_cS (dx_var 1) (da_cS (dx_var 5) da_nil)))))) (DB.of (dx_op (od_mul rfl) (db_var 8) (DB.of (dx_call C__law_power rfl (hr.mono (by decide)) (da_cS (dx_var 1) (da_cS (dx_var 6) da_nil)))))))) da_nil))) (db_var 2))) (DB.of dx_int) (by first | exact nomark _ | rfl)) (dss_one (ds_ret dx_bl)) dss_nil))) dss_nil)
  (dss_cons (ds_set 9 nd (dx_op (od_add rfl) (DB.of dx_int) (DB.of (dx_call C__law_draw rfl (hr.mono (by decide)) (da_cS (dx_var 0) (da_cS dx_int da_nil))))))
  (dss_cons (ds_set 10 nd (dx_call C_stretch_seen rfl (hr.mono (by decide)) (da_cS (dx_var 1) (da_cS (dx_var 2) (da_cS (dx_var 9) da_nil)))))
  (dss_cons (ds_if (dt_not (dt_val (dx_call C__law_is rfl (hr.mono (by decide)) (da_cS (dx_var 10) (da_cS (dx_cmp (od_ge) (DB.of (dx_call C__law_own_part rfl (hr.mono (by decide)) (da_cS (dx_var 1) (da_cS (dx_var 2) da_nil)))) (DB.of (dx_call C__law_power rfl (hr.mono (by decide)) (da_cS (dx_var 1) (da_cS (dx_var 9) da_nil)))) (by first | exact nomark _ | rfl)) da_nil))))) (dss_one (ds_ret dx_bl)) dss_nil)
  (dss_cons (ds_set 3 nd (dx_op (od_add rfl) (db_var 9) (DB.of (dx_call C__law_draw rfl (hr.mono (by decide)) (da_cS (dx_var 0) (da_cS dx_int da_nil))))))
  (dss_cons (ds_valLc 11 rfl nd (di_r1 T.b_range (db_var 3)) (blkOk_by (own := [("sign", 15)]) (N := ["hand", "base", "by", "long_now", "told", "p", "q", "a", "b", "wide", "is_seen", "word", "at", "other", "is_same", "sign"]) (sc := (defScope s__law_is_right)) (by decide +kernel)) (fun _ _ _ _ _ => (dg_name 15 nd)) (fun _ _ _ _ _ => dif_nil) (fun _ _ _ _ _ => (dx_call C__law_draw rfl (hr.mono (by decide)) (da_cS (dx_var 0) (da_cS (dx_var 1) da_nil)))) (sw_true rfl rfl rfl (by decide +kernel)))
  (dss_cons (ds_set 12 nd (dx_call C__law_draw rfl (hr.mono (by decide)) (da_cS (dx_var 0) (da_cS (dx_op (od_add rfl) (DB.of (dx_op (od_sub) (db_var 3) (db_var 9))) (DB.of dx_int)) da_nil))))
  (dss_cons (ds_set 13 nd (dx_op (od_add rfl) (DB.of (dx_op (od_add rfl) (DB.of (dx_slc rfl (db_var 11) dp_none (dp_some (db_var 12)))) (DB.of (dx_f (df_lc rfl nd (di_r1 T.b_range (db_var 9)) (blkOk_by (own := [("sign", 15)]) (N := ["hand", "base", "by", "long_now", "told", "p", "q", "a", "b", "wide", "is_seen", "word", "at", "other", "is_same", "sign"]) (sc := (defScope s__law_is_right)) (by decide +kernel)) (fun _ _ _ _ _ => (dg_name 15 nd)) (fun _ _ _ _ _ => dif_nil) (fun _ _ _ _ _ => (dx_call C__law_draw rfl (hr.mono (by decide)) (da_cS (dx_var 0) (da_cS (dx_var 1) da_nil))))))))) (DB.of (dx_slc rfl (db_var 11) (dp_some (DB.of (dx_op (od_add rfl) (db_var 12) (db_var 9)))) dp_none))))
  (dss_cons (ds_set 14 nd (dx_cmp (od_eq rfl hr.units) (DB.of (dx_op (od_mod) (DB.of (dx_cty (cd_int) T.b_int (by decide +kernel) (da_cB (DB.of (dx_call C__law_number rfl (hr.mono (by decide)) (da_cS (dx_var 1) (da_cS (dx_var 11) da_nil)))) da_nil))) (db_var 2))) (DB.of (dx_op (od_mod) (DB.of (dx_cty (cd_int) T.b_int (by decide +kernel) (da_cB (DB.of (dx_call C__law_number rfl (hr.mono (by decide)) (da_cS (dx_var 1) (da_cS (dx_var 13) da_nil)))) da_nil))) (db_var 2))) (by first | exact nomark _ | rfl)))
  (dss_cons (ds_if (DW.dt (dw_and (dt_val (dx_var 10)) (dw_and1 (dt_cmp (od_ne rfl hr.units) (db_var 14) (DB.of (dx_cmp (od_eq rfl hr.units) (db_var 11) (db_var 13) (by first | exact nomark _ | rfl))) (by first | exact nomark _ | rfl))))) (dss_one (ds_ret dx_bl)) dss_nil)
  (dss_one (ds_ret (dx_or (dx_not (dx_var 10)) (dx_one (dx_cmp (od_eq rfl hr.units) (DB.of (dx_call C_unseen_one rfl (hr.mono (by decide)) (da_cS (dx_var 1) (da_cS (dx_var 2) (da_cS dx_int da_nil))))) (DB.of (dx_tup (da_cS dx_str da_nil))) (by first | exact nomark _ | rfl)))))))))))))))))))))
/-! ### law -/
theorem sc_law : FnScope ["script", "hand", "turn"] ["script"] (defScope s_law) := ⟨rfl, rfl, rfl, by decide +kernel, rfl, by decide +kernel, by decide +kernel⟩
def B_law_8 : Ts := (wRet (wCB gAll (wCons (wF (wLc (wiR1 (wC (.int 6))) (gN 2) wYes (wCall 1 T__law_is_right (wCons (wVal 1) wNil)) [2])) wNil)))
def B_law_6 : Ts := (wSeq (wIfS (wOr (wTst (wOp gNe (wCall 3 T_unseen_two (wCons (wC (.int 2)) (wCons (wC (.int 3)) (wCons (wC (.int 3)) wNil)))) (wTup (wCons (wC (.str "places")) (wCons (wC (.int 0)) (wCons (wC (.int 1)) (wCons (wC (.int 1)) (wCons (wC (.int 1)) wNil)))))))) (wTst (wOp gNe (wCall 3 T_unseen_two (wCons (wC (.int 3)) (wCons (wC (.int 7)) (wCons (wC (.int 2)) wNil)))) (wTup (wCons (wC (.str "places")) (wCons (wC (.int 0)) (wCons (wC (.int 1)) (wCons (wC (.int 1)) (wCons (wC (.int 2)) wNil))))))))) (wRet (wC (.bl false))) wSkip)
  B_law_8)
def B_law_4 : Ts := (wSeq (wIfS (wTst (wOp gIsN (wCall 3 T_stretch_seen (wCons (wC (.int 10)) (wCons (wC (.int 100)) (wCons (wC (.int 1)) wNil)))) (wC (.bl false)))) (wRet (wC (.bl false))) wSkip)
  B_law_6)
def B_law : Ts := (wSeq (wIfS (wOr (wTst (wOp gIsN (wCall 3 T_stretch_seen (wCons (wC (.int 10)) (wCons (wC (.int 97)) (wCons (wC (.int 1)) wNil)))) (wC (.bl true)))) (wTst (wOp gIsN (wCall 3 T_stretch_seen (wCons (wC (.int 10)) (wCons (wC (.int 97)) (wCons (wC (.int 2)) wNil)))) (wC (.bl false))))) (wRet (wC (.bl false))) wSkip)
  B_law_4)
theorem ok_law (T : Txt mg) (hO : ∀ c C, G.CT c = some C → ObjCls G.K C) (C__law_is_right : Cal P w G mg base "_law_is_right" 6 1 T__law_is_right) (C_unseen_two : Cal P w G mg base "unseen_two" 5 3 T_unseen_two) (C_stretch_seen : Cal P w G mg base "stretch_seen" 5 3 T_stretch_seen) {fh : Addr} {fdh : FuncData} (Fh : FnOk P w G.K mg base (L2.CX P w) 1 fh fdh ["script"] (handSp G)) (mh : mg "_law_hand" = some (.ref fh)) (kh : PySem.W.keepIn G.K (.ref fh) = true) (bh : L2.Binds G.K fdh ["script"] []) (F : Fun G.K "law" "law" s_law f fd) (hB : B_law (.no :: .val .hand :: List.replicate (3 - 2) .no) { nx := fun _ => False, rt := fun d _ => d = .bl true, bk := fun _ => False, ct := fun _ => False, ex := fun _ _ => False }) : FnOk P w G.K mg base (L2.CX P w) 7 f fd ["script"] (lawSp G.K) := law_fn F sc_law rfl (by decide) rfl (fun cdv A outer s H E hr => ps_set sc_law.nd rfl (Or.inr rfl) (pe_callS Fh (hr.mono (by decide)) rfl mh kh bh (fun σ pins H s e s1 I c => (by obtain ⟨_, _, _, _, _, _, _, _, _, _, _, _, z⟩ := c; exact z.elim)) (pa_cons (pv 0) pa_nil)) ) (fun cdv A outer s H E S eS hr => by
  subst eS
  have nd := sc_law.nd
  have hu65 : A.units + 3 + 65 < cLine := by have := hr.un; show _ < _; have e : (A.deeper (envOfC "law" (defScope s_law) s.heap.objs.size f cdv)).units = A.units + 3 := rfl; omega
  exact (dss_cons (ds_if (DW.dt (dw_or (dt_cmp (od_isN) (DB.of (dx_call C_stretch_seen rfl (hr.mono (by decide)) (da_cS dx_int (da_cS dx_int (da_cS dx_int da_nil))))) (DB.of dx_bl) (by first | exact nomark _ | rfl)) (dw_or1 (dt_cmp (od_isN) (DB.of (dx_call C_stretch_seen rfl (hr.mono (by decide)) (da_cS dx_int (da_cS dx_int (da_cS dx_int da_nil))))) (DB.of dx_bl) (by first | exact nomark _ | rfl))))) (dss_one (ds_ret dx_bl)) dss_nil)
  (dss_cons (ds_if (dt_cmp (od_isN) (DB.of (dx_call C_stretch_seen rfl (hr.mono (by decide)) (da_cS dx_int (da_cS dx_int (da_cS dx_int da_nil))))) (DB.of dx_bl) (by first | exact nomark _ | rfl)) (dss_one (ds_ret dx_bl)) dss_nil)
  (dss_cons (ds_if (DW.dt (dw_or (dt_cmp (od_ne rfl hr.units) (DB.of (dx_call C_unseen_two rfl (hr.mono (by decide)) (da_cS dx_int (da_cS dx_int (da_cS dx_int da_nil))))) (DB.of (dx_tup (da_cS dx_str (da_cS dx_int (da_cS dx_int (da_cS dx_int (da_cS dx_int da_nil))))))) (by first | exact nomark _ | rfl)) (dw_or1 (dt_cmp (od_ne rfl hr.units) (DB.of (dx_call C_unseen_two rfl (hr.mono (by decide)) (da_cS dx_int (da_cS dx_int (da_cS dx_int da_nil))))) (DB.of (dx_tup (da_cS dx_str (da_cS dx_int (da_cS dx_int (da_cS dx_int (da_cS dx_int da_nil))))))) (by first | exact nomark _ | rfl))))) (dss_one (ds_ret dx_bl)) dss_nil)
  (dss_one (ds_ret (dx_cb (cd_all rfl) T.b_all (by decide +kernel) (da_cB (DB.of (dx_f (df_lc rfl nd (di_r1 T.b_range (DB.of dx_int)) (blkOk_by (own := [("turn", 2)]) (N := ["script", "hand", "turn"]) (sc := (defScope s_law)) (by decide +kernel)) (fun _ _ _ _ _ => (dg_name 2 nd)) (fun _ _ _ _ _ => dif_nil) (fun _ _ _ _ _ => (dx_call C__law_is_right rfl (hr.mono (by decide)) (da_cS (dx_var 1) da_nil)))))) da_nil)))))))) hB
end
end Law

set_option Elab.async false
set_option linter.all false
set_option maxRecDepth 100000
namespace Law
open PySem PySem.Spec PyProof.Rows L2 DV
theorem hb_hand : ∀ (ns : List Int), ns.length ≤ 63 → ∀ Q : Post, (∀ (a : Addr) (cells : List Int) (seed : Int) (r : DV.Env), (∀ x ∈ cells, 0 ≤ x) → 0 ≤ seed → seed < 9223372036854775808 → Q.rf (.own a (handL cells 0 0 seed 0)) r) → B__law_hand (.val (.frz (ns.map D.int)) :: List.replicate (3 - 1) .no) Q := by
  intro ns hl Q h
  have e0 : DV.cutD (ns.map D.int) none (some 63) = (ns.take 63).map D.int := by
    unfold DV.cutD
    rw [HT.sIx_none, show (some 63 : Option Int) = some ((63 : Nat) : Int) from rfl, HT.sIx_nat, List.drop_zero, List.length_map, Nat.sub_zero, Nat.min_eq_right hl, List.take_of_length_le (by simp), List.take_of_length_le hl]
  unfold B__law_hand
  simp only [wSeq, wAsg, wOwn, wF, wLc, wSkip, wBrk, wCnt, wRet, wRetF, wRetN, wDrop, wIfS, wPar, wFor, wWh, wV, wApp, wExt, wSetIx, wAug, wVal, wLook, wC, wOp, wTst, wChain, wAnd, wOr, wNot, wAndV, wOrV, wNotV, wIf, wNil, wCons, wTup, wLst, wCall, wCB, wIsT, wiR1, wiR2, wiSq, wiEn, wiZip, gN, gT1, gT2, gT3, gT4, gT5, gT6, gT7, wYes, gAdd, DV.gSub, gMul, gMod, gDiv, gPow, gLt, gLe, gGt, gGe, gCmp, gEq, gNe, gIs, gIsN, isNon, gIn, gNotIn, gIx, gSlc, wSlc, wNoP, wPart, gLen, gAbs, gInt, gMin2, gMax2, gAll, gAny, gSum, gTuple, wNeg, wRev, itemsOf, D.isTy, D.isHand, Sl.toD, big_0, big_1, big_2, big_3, big_4, big_5, big_6, big_7, big_8, big_9, big_10, big_11, big_12, draw_iff, own_ex, val_ex, wipeE, restE, Sl.keep, Option.getD_some, get_z, get_s, set_z, set_s, List.length_cons, List.length_nil, atI_0, atI_1, atI_2, atI_3, atI_4, ixN_5_0, ixN_5_1, ixN_5_2, ixN_5_3, ixN_5_4, D.bl.injEq, D.int.injEq, D.lst.injEq, D.tup.injEq, D.str.injEq, Sl.own.injEq, Sl.val.injEq, Option.some.injEq, exists_eq_left', exists_eq_left, exists_eq', exists_eq, or_true, true_or, or_false, false_or, CMul, CPow, natAbs_10, natAbs_2, Int.cast_ofNat_Int, Nat.reducePow, exists_and_left, exists_const, and_assoc, true_and, and_true, and_self, false_and, and_false, if_true, if_false, ite_true, ite_false, reduceCtorEq, decide_true, decide_false, decide_eq_true_eq, decide_eq_false_iff_not, Bool.not_true, Bool.not_false, Bool.false_eq_true, List.replicate_zero, List.replicate_succ, List.map_cons, List.map_nil, List.nil_append, List.cons_append, Nat.reduceSub, Nat.reduceAdd, Nat.reduceLeDiff, Nat.reduceLT, Int.reduceLT, Int.reduceLE, Int.reduceAdd, Int.reduceSub, Int.reduceMul, Int.reduceNeg, Int.reduceMod, Int.reduceDiv, Int.reducePow, Int.reduceToNat, okD_int, okD_bl, okD_lst, okD_tup, okD_non, okL_nil, okL_cons, okD_str, okL_int, eqD_int, eqD_bl, eqD_str, eqD_tup, eqD_lst, eqL_cons, eqL_nil, eqL_cn, eqL_nc, eqL_int, Bool.and_eq_true, Bool.or_eq_true, Bool.not_eq_true', Bool.and_false, Bool.false_and, Bool.or_false, Bool.false_or, Bool.or_true, Bool.true_or, Bool.and_true, Bool.true_and, Bool.and_self, e0]
  refine ⟨by unfold big; simp; omega, ?_⟩
  refine lc_map (fun d => match d with | .int i => .int (if i < 0 then -i else i) | d => d) (fun x hx K' hk => ?_) fun a => ?_
  · obtain ⟨i, _, rfl⟩ := List.mem_map.mp hx
    (try simp only [wSeq, wAsg, wOwn, wF, wLc, wSkip, wBrk, wCnt, wRet, wRetF, wRetN, wDrop, wIfS, wPar, wFor, wWh, wV, wApp, wExt, wSetIx, wAug, wVal, wLook, wC, wOp, wTst, wChain, wAnd, wOr, wNot, wAndV, wOrV, wNotV, wIf, wNil, wCons, wTup, wLst, wCall, wCB, wIsT, wiR1, wiR2, wiSq, wiEn, wiZip, gN, gT1, gT2, gT3, gT4, gT5, gT6, gT7, wYes, gAdd, DV.gSub, gMul, gMod, gDiv, gPow, gLt, gLe, gGt, gGe, gCmp, gEq, gNe, gIs, gIsN, isNon, gIn, gNotIn, gIx, gSlc, wSlc, wNoP, wPart, gLen, gAbs, gInt, gMin2, gMax2, gAll, gAny, gSum, gTuple, wNeg, wRev, itemsOf, D.isTy, D.isHand, Sl.toD, big_0, big_1, big_2, big_3, big_4, big_5, big_6, big_7, big_8, big_9, big_10, big_11, big_12, draw_iff, own_ex, val_ex, wipeE, restE, Sl.keep, Option.getD_some, get_z, get_s, set_z, set_s, List.length_cons, List.length_nil, atI_0, atI_1, atI_2, atI_3, atI_4, ixN_5_0, ixN_5_1, ixN_5_2, ixN_5_3, ixN_5_4, D.bl.injEq, D.int.injEq, D.lst.injEq, D.tup.injEq, D.str.injEq, Sl.own.injEq, Sl.val.injEq, Option.some.injEq, exists_eq_left', exists_eq_left, exists_eq', exists_eq, or_true, true_or, or_false, false_or, CMul, CPow, natAbs_10, natAbs_2, Int.cast_ofNat_Int, Nat.reducePow, exists_and_left, exists_const, and_assoc, true_and, and_true, and_self, false_and, and_false, if_true, if_false, ite_true, ite_false, reduceCtorEq, decide_true, decide_false, decide_eq_true_eq, decide_eq_false_iff_not, Bool.not_true, Bool.not_false, Bool.false_eq_true, List.replicate_zero, List.replicate_succ, List.map_cons, List.map_nil, List.nil_append, List.cons_append, Nat.reduceSub, Nat.reduceAdd, Nat.reduceLeDiff, Nat.reduceLT, Int.reduceLT, Int.reduceLE, Int.reduceAdd, Int.reduceSub, Int.reduceMul, Int.reduceNeg, Int.reduceMod, Int.reduceDiv, Int.reducePow, Int.reduceToNat, okD_int, okD_bl, okD_lst, okD_tup, okD_non, okL_nil, okL_cons, okD_str, okL_int, eqD_int, eqD_bl, eqD_str, eqD_tup, eqD_lst, eqL_cons, eqL_nil, eqL_cn, eqL_nc, eqL_int, Bool.and_eq_true, Bool.or_eq_true, Bool.not_eq_true', Bool.and_false, Bool.false_and, Bool.or_false, Bool.false_or, Bool.or_true, Bool.true_or, Bool.and_true, Bool.true_and, Bool.and_self])
    exact hk
  · unfold B__law_hand_2
    have e1 : List.map (fun d => match d with | .int i => .int (if i < 0 then -i else i) | d => d) (List.map D.int (List.take 63 ns)) = ((ns.take 63).map fun i => if i < 0 then -i else i).map D.int := by
      rw [List.map_map, List.map_map]; rfl
    simp only [wSeq, wAsg, wOwn, wF, wLc, wSkip, wBrk, wCnt, wRet, wRetF, wRetN, wDrop, wIfS, wPar, wFor, wWh, wV, wApp, wExt, wSetIx, wAug, wVal, wLook, wC, wOp, wTst, wChain, wAnd, wOr, wNot, wAndV, wOrV, wNotV, wIf, wNil, wCons, wTup, wLst, wCall, wCB, wIsT, wiR1, wiR2, wiSq, wiEn, wiZip, gN, gT1, gT2, gT3, gT4, gT5, gT6, gT7, wYes, gAdd, DV.gSub, gMul, gMod, gDiv, gPow, gLt, gLe, gGt, gGe, gCmp, gEq, gNe, gIs, gIsN, isNon, gIn, gNotIn, gIx, gSlc, wSlc, wNoP, wPart, gLen, gAbs, gInt, gMin2, gMax2, gAll, gAny, gSum, gTuple, wNeg, wRev, itemsOf, D.isTy, D.isHand, Sl.toD, big_0, big_1, big_2, big_3, big_4, big_5, big_6, big_7, big_8, big_9, big_10, big_11, big_12, draw_iff, own_ex, val_ex, wipeE, restE, Sl.keep, Option.getD_some, get_z, get_s, set_z, set_s, List.length_cons, List.length_nil, atI_0, atI_1, atI_2, atI_3, atI_4, ixN_5_0, ixN_5_1, ixN_5_2, ixN_5_3, ixN_5_4, D.bl.injEq, D.int.injEq, D.lst.injEq, D.tup.injEq, D.str.injEq, Sl.own.injEq, Sl.val.injEq, Option.some.injEq, exists_eq_left', exists_eq_left, exists_eq', exists_eq, or_true, true_or, or_false, false_or, CMul, CPow, natAbs_10, natAbs_2, Int.cast_ofNat_Int, Nat.reducePow, exists_and_left, exists_const, and_assoc, true_and, and_true, and_self, false_and, and_false, if_true, if_false, ite_true, ite_false, reduceCtorEq, decide_true, decide_false, decide_eq_true_eq, decide_eq_false_iff_not, Bool.not_true, Bool.not_false, Bool.false_eq_true, List.replicate_zero, List.replicate_succ, List.map_cons, List.map_nil, List.nil_append, List.cons_append, Nat.reduceSub, Nat.reduceAdd, Nat.reduceLeDiff, Nat.reduceLT, Int.reduceLT, Int.reduceLE, Int.reduceAdd, Int.reduceSub, Int.reduceMul, Int.reduceNeg, Int.reduceMod, Int.reduceDiv, Int.reducePow, Int.reduceToNat, okD_int, okD_bl, okD_lst, okD_tup, okD_non, okL_nil, okL_cons, okD_str, okL_int, eqD_int, eqD_bl, eqD_str, eqD_tup, eqD_lst, eqL_cons, eqL_nil, eqL_cn, eqL_nc, eqL_int, Bool.and_eq_true, Bool.or_eq_true, Bool.not_eq_true', Bool.and_false, Bool.false_and, Bool.or_false, Bool.false_or, Bool.or_true, Bool.true_or, Bool.and_true, Bool.true_and, Bool.and_self, e1]
    refine (fun b => h b _ _ _ (fun x hx => ?_) (by omega) (by simp; omega))
    obtain ⟨i, _, rfl⟩ := List.mem_map.mp hx
    split <;> omega

theorem hb_draw : ∀ (h : Addr) (cells : List Int) (p : Nat) (big st cnt m : Int), (∀ x ∈ cells, 0 ≤ x) → 0 ≤ big → 0 ≤ st → 0 ≤ cnt → st < 9223372036854775808 → 0 < m → m < 1073741824 → ∀ Q : Post, (∀ (k : Int) (p' : Nat) (big' st' cnt' : Int) (r : DV.Env), 0 ≤ k → k < m → 0 ≤ big' → 0 ≤ st' → 0 ≤ cnt' → st' < 9223372036854775808 → Q.rt (.int k) (.own h (handL cells p' big' st' cnt') :: r)) → B__law_draw (.own h (handL cells p big st cnt) :: .val (.int m) :: List.replicate (5 - 2) .no) Q := by
  intro h cells p bg st cnt m hc hb hs hn hs2 hm hm2 Q hq
  have last : ∀ (p : Nat) (bg st cnt : Int) (x3 x4 : Sl), 0 ≤ bg → 0 ≤ st → 0 ≤ cnt → st < 9223372036854775808 → ∀ x2 : Sl, B__law_draw_7 [.own h (handL cells p bg st cnt), .val (.int m), x2, x3, x4] Q := by
    intro p bg st cnt x3 x4 hb hs hn hs2 x2
    unfold B__law_draw_7 handL
    (try simp only [wSeq, wAsg, wOwn, wF, wLc, wSkip, wBrk, wCnt, wRet, wRetF, wRetN, wDrop, wIfS, wPar, wFor, wWh, wV, wApp, wExt, wSetIx, wAug, wVal, wLook, wC, wOp, wTst, wChain, wAnd, wOr, wNot, wAndV, wOrV, wNotV, wIf, wNil, wCons, wTup, wLst, wCall, wCB, wIsT, wiR1, wiR2, wiSq, wiEn, wiZip, gN, gT1, gT2, gT3, gT4, gT5, gT6, gT7, wYes, gAdd, DV.gSub, gMul, gMod, gDiv, gPow, gLt, gLe, gGt, gGe, gCmp, gEq, gNe, gIs, gIsN, isNon, gIn, gNotIn, gIx, gSlc, wSlc, wNoP, wPart, gLen, gAbs, gInt, gMin2, gMax2, gAll, gAny, gSum, gTuple, wNeg, wRev, itemsOf, D.isTy, D.isHand, Sl.toD, big_0, big_1, big_2, big_3, big_4, big_5, big_6, big_7, big_8, big_9, big_10, big_11, big_12, draw_iff, own_ex, val_ex, wipeE, restE, Sl.keep, Option.getD_some, get_z, get_s, set_z, set_s, List.length_cons, List.length_nil, atI_0, atI_1, atI_2, atI_3, atI_4, ixN_5_0, ixN_5_1, ixN_5_2, ixN_5_3, ixN_5_4, D.bl.injEq, D.int.injEq, D.lst.injEq, D.tup.injEq, D.str.injEq, Sl.own.injEq, Sl.val.injEq, Option.some.injEq, exists_eq_left', exists_eq_left, exists_eq', exists_eq, or_true, true_or, or_false, false_or, CMul, CPow, natAbs_10, natAbs_2, Int.cast_ofNat_Int, Nat.reducePow, exists_and_left, exists_const, and_assoc, true_and, and_true, and_self, false_and, and_false, if_true, if_false, ite_true, ite_false, reduceCtorEq, decide_true, decide_false, decide_eq_true_eq, decide_eq_false_iff_not, Bool.not_true, Bool.not_false, Bool.false_eq_true, List.replicate_zero, List.replicate_succ, List.map_cons, List.map_nil, List.nil_append, List.cons_append, Nat.reduceSub, Nat.reduceAdd, Nat.reduceLeDiff, Nat.reduceLT, Int.reduceLT, Int.reduceLE, Int.reduceAdd, Int.reduceSub, Int.reduceMul, Int.reduceNeg, Int.reduceMod, Int.reduceDiv, Int.reducePow, Int.reduceToNat, okD_int, okD_bl, okD_lst, okD_tup, okD_non, okL_nil, okL_cons, okD_str, okL_int, eqD_int, eqD_bl, eqD_str, eqD_tup, eqD_lst, eqL_cons, eqL_nil, eqL_cn, eqL_nc, eqL_int, Bool.and_eq_true, Bool.or_eq_true, Bool.not_eq_true', Bool.and_false, Bool.false_and, Bool.or_false, Bool.false_or, Bool.or_true, Bool.true_or, Bool.and_true, Bool.true_and, Bool.and_self])
    split
    · unfold B__law_draw_8
      (try simp only [wSeq, wAsg, wOwn, wF, wLc, wSkip, wBrk, wCnt, wRet, wRetF, wRetN, wDrop, wIfS, wPar, wFor, wWh, wV, wApp, wExt, wSetIx, wAug, wVal, wLook, wC, wOp, wTst, wChain, wAnd, wOr, wNot, wAndV, wOrV, wNotV, wIf, wNil, wCons, wTup, wLst, wCall, wCB, wIsT, wiR1, wiR2, wiSq, wiEn, wiZip, gN, gT1, gT2, gT3, gT4, gT5, gT6, gT7, wYes, gAdd, DV.gSub, gMul, gMod, gDiv, gPow, gLt, gLe, gGt, gGe, gCmp, gEq, gNe, gIs, gIsN, isNon, gIn, gNotIn, gIx, gSlc, wSlc, wNoP, wPart, gLen, gAbs, gInt, gMin2, gMax2, gAll, gAny, gSum, gTuple, wNeg, wRev, itemsOf, D.isTy, D.isHand, Sl.toD, big_0, big_1, big_2, big_3, big_4, big_5, big_6, big_7, big_8, big_9, big_10, big_11, big_12, draw_iff, own_ex, val_ex, wipeE, restE, Sl.keep, Option.getD_some, get_z, get_s, set_z, set_s, List.length_cons, List.length_nil, atI_0, atI_1, atI_2, atI_3, atI_4, ixN_5_0, ixN_5_1, ixN_5_2, ixN_5_3, ixN_5_4, D.bl.injEq, D.int.injEq, D.lst.injEq, D.tup.injEq, D.str.injEq, Sl.own.injEq, Sl.val.injEq, Option.some.injEq, exists_eq_left', exists_eq_left, exists_eq', exists_eq, or_true, true_or, or_false, false_or, CMul, CPow, natAbs_10, natAbs_2, Int.cast_ofNat_Int, Nat.reducePow, exists_and_left, exists_const, and_assoc, true_and, and_true, and_self, false_and, and_false, if_true, if_false, ite_true, ite_false, reduceCtorEq, decide_true, decide_false, decide_eq_true_eq, decide_eq_false_iff_not, Bool.not_true, Bool.not_false, Bool.false_eq_true, List.replicate_zero, List.replicate_succ, List.map_cons, List.map_nil, List.nil_append, List.cons_append, Nat.reduceSub, Nat.reduceAdd, Nat.reduceLeDiff, Nat.reduceLT, Int.reduceLT, Int.reduceLE, Int.reduceAdd, Int.reduceSub, Int.reduceMul, Int.reduceNeg, Int.reduceMod, Int.reduceDiv, Int.reducePow, Int.reduceToNat, okD_int, okD_bl, okD_lst, okD_tup, okD_non, okL_nil, okL_cons, okD_str, okL_int, eqD_int, eqD_bl, eqD_str, eqD_tup, eqD_lst, eqL_cons, eqL_nil, eqL_cn, eqL_nc, eqL_int, Bool.and_eq_true, Bool.or_eq_true, Bool.not_eq_true', Bool.and_false, Bool.false_and, Bool.or_false, Bool.false_or, Bool.or_true, Bool.true_or, Bool.and_true, Bool.true_and, Bool.and_self])
      refine ⟨hm, ?_⟩
      unfold B__law_draw_9
      (try simp only [wSeq, wAsg, wOwn, wF, wLc, wSkip, wBrk, wCnt, wRet, wRetF, wRetN, wDrop, wIfS, wPar, wFor, wWh, wV, wApp, wExt, wSetIx, wAug, wVal, wLook, wC, wOp, wTst, wChain, wAnd, wOr, wNot, wAndV, wOrV, wNotV, wIf, wNil, wCons, wTup, wLst, wCall, wCB, wIsT, wiR1, wiR2, wiSq, wiEn, wiZip, gN, gT1, gT2, gT3, gT4, gT5, gT6, gT7, wYes, gAdd, DV.gSub, gMul, gMod, gDiv, gPow, gLt, gLe, gGt, gGe, gCmp, gEq, gNe, gIs, gIsN, isNon, gIn, gNotIn, gIx, gSlc, wSlc, wNoP, wPart, gLen, gAbs, gInt, gMin2, gMax2, gAll, gAny, gSum, gTuple, wNeg, wRev, itemsOf, D.isTy, D.isHand, Sl.toD, big_0, big_1, big_2, big_3, big_4, big_5, big_6, big_7, big_8, big_9, big_10, big_11, big_12, draw_iff, own_ex, val_ex, wipeE, restE, Sl.keep, Option.getD_some, get_z, get_s, set_z, set_s, List.length_cons, List.length_nil, atI_0, atI_1, atI_2, atI_3, atI_4, ixN_5_0, ixN_5_1, ixN_5_2, ixN_5_3, ixN_5_4, D.bl.injEq, D.int.injEq, D.lst.injEq, D.tup.injEq, D.str.injEq, Sl.own.injEq, Sl.val.injEq, Option.some.injEq, exists_eq_left', exists_eq_left, exists_eq', exists_eq, or_true, true_or, or_false, false_or, CMul, CPow, natAbs_10, natAbs_2, Int.cast_ofNat_Int, Nat.reducePow, exists_and_left, exists_const, and_assoc, true_and, and_true, and_self, false_and, and_false, if_true, if_false, ite_true, ite_false, reduceCtorEq, decide_true, decide_false, decide_eq_true_eq, decide_eq_false_iff_not, Bool.not_true, Bool.not_false, Bool.false_eq_true, List.replicate_zero, List.replicate_succ, List.map_cons, List.map_nil, List.nil_append, List.cons_append, Nat.reduceSub, Nat.reduceAdd, Nat.reduceLeDiff, Nat.reduceLT, Int.reduceLT, Int.reduceLE, Int.reduceAdd, Int.reduceSub, Int.reduceMul, Int.reduceNeg, Int.reduceMod, Int.reduceDiv, Int.reducePow, Int.reduceToNat, okD_int, okD_bl, okD_lst, okD_tup, okD_non, okL_nil, okL_cons, okD_str, okL_int, eqD_int, eqD_bl, eqD_str, eqD_tup, eqD_lst, eqL_cons, eqL_nil, eqL_cn, eqL_nc, eqL_int, Bool.and_eq_true, Bool.or_eq_true, Bool.not_eq_true', Bool.and_false, Bool.false_and, Bool.or_false, Bool.false_or, Bool.or_true, Bool.true_or, Bool.and_true, Bool.true_and, Bool.and_self])
      refine ⟨hm, hm2, ?_⟩
      unfold B__law_draw_10
      (try simp only [wSeq, wAsg, wOwn, wF, wLc, wSkip, wBrk, wCnt, wRet, wRetF, wRetN, wDrop, wIfS, wPar, wFor, wWh, wV, wApp, wExt, wSetIx, wAug, wVal, wLook, wC, wOp, wTst, wChain, wAnd, wOr, wNot, wAndV, wOrV, wNotV, wIf, wNil, wCons, wTup, wLst, wCall, wCB, wIsT, wiR1, wiR2, wiSq, wiEn, wiZip, gN, gT1, gT2, gT3, gT4, gT5, gT6, gT7, wYes, gAdd, DV.gSub, gMul, gMod, gDiv, gPow, gLt, gLe, gGt, gGe, gCmp, gEq, gNe, gIs, gIsN, isNon, gIn, gNotIn, gIx, gSlc, wSlc, wNoP, wPart, gLen, gAbs, gInt, gMin2, gMax2, gAll, gAny, gSum, gTuple, wNeg, wRev, itemsOf, D.isTy, D.isHand, Sl.toD, big_0, big_1, big_2, big_3, big_4, big_5, big_6, big_7, big_8, big_9, big_10, big_11, big_12, draw_iff, own_ex, val_ex, wipeE, restE, Sl.keep, Option.getD_some, get_z, get_s, set_z, set_s, List.length_cons, List.length_nil, atI_0, atI_1, atI_2, atI_3, atI_4, ixN_5_0, ixN_5_1, ixN_5_2, ixN_5_3, ixN_5_4, D.bl.injEq, D.int.injEq, D.lst.injEq, D.tup.injEq, D.str.injEq, Sl.own.injEq, Sl.val.injEq, Option.some.injEq, exists_eq_left', exists_eq_left, exists_eq', exists_eq, or_true, true_or, or_false, false_or, CMul, CPow, natAbs_10, natAbs_2, Int.cast_ofNat_Int, Nat.reducePow, exists_and_left, exists_const, and_assoc, true_and, and_true, and_self, false_and, and_false, if_true, if_false, ite_true, ite_false, reduceCtorEq, decide_true, decide_false, decide_eq_true_eq, decide_eq_false_iff_not, Bool.not_true, Bool.not_false, Bool.false_eq_true, List.replicate_zero, List.replicate_succ, List.map_cons, List.map_nil, List.nil_append, List.cons_append, Nat.reduceSub, Nat.reduceAdd, Nat.reduceLeDiff, Nat.reduceLT, Int.reduceLT, Int.reduceLE, Int.reduceAdd, Int.reduceSub, Int.reduceMul, Int.reduceNeg, Int.reduceMod, Int.reduceDiv, Int.reducePow, Int.reduceToNat, okD_int, okD_bl, okD_lst, okD_tup, okD_non, okL_nil, okL_cons, okD_str, okL_int, eqD_int, eqD_bl, eqD_str, eqD_tup, eqD_lst, eqL_cons, eqL_nil, eqL_cn, eqL_nc, eqL_int, Bool.and_eq_true, Bool.or_eq_true, Bool.not_eq_true', Bool.and_false, Bool.false_and, Bool.or_false, Bool.false_or, Bool.or_true, Bool.true_or, Bool.and_true, Bool.true_and, Bool.and_self])
      exact hq _ p _ st cnt _ (Int.emod_nonneg _ (by omega)) (Int.emod_lt_of_pos _ hm) (Int.ediv_nonneg hb (by omega)) hs hn hs2
    · unfold B__law_draw_11
      (try simp only [wSeq, wAsg, wOwn, wF, wLc, wSkip, wBrk, wCnt, wRet, wRetF, wRetN, wDrop, wIfS, wPar, wFor, wWh, wV, wApp, wExt, wSetIx, wAug, wVal, wLook, wC, wOp, wTst, wChain, wAnd, wOr, wNot, wAndV, wOrV, wNotV, wIf, wNil, wCons, wTup, wLst, wCall, wCB, wIsT, wiR1, wiR2, wiSq, wiEn, wiZip, gN, gT1, gT2, gT3, gT4, gT5, gT6, gT7, wYes, gAdd, DV.gSub, gMul, gMod, gDiv, gPow, gLt, gLe, gGt, gGe, gCmp, gEq, gNe, gIs, gIsN, isNon, gIn, gNotIn, gIx, gSlc, wSlc, wNoP, wPart, gLen, gAbs, gInt, gMin2, gMax2, gAll, gAny, gSum, gTuple, wNeg, wRev, itemsOf, D.isTy, D.isHand, Sl.toD, big_0, big_1, big_2, big_3, big_4, big_5, big_6, big_7, big_8, big_9, big_10, big_11, big_12, draw_iff, own_ex, val_ex, wipeE, restE, Sl.keep, Option.getD_some, get_z, get_s, set_z, set_s, List.length_cons, List.length_nil, atI_0, atI_1, atI_2, atI_3, atI_4, ixN_5_0, ixN_5_1, ixN_5_2, ixN_5_3, ixN_5_4, D.bl.injEq, D.int.injEq, D.lst.injEq, D.tup.injEq, D.str.injEq, Sl.own.injEq, Sl.val.injEq, Option.some.injEq, exists_eq_left', exists_eq_left, exists_eq', exists_eq, or_true, true_or, or_false, false_or, CMul, CPow, natAbs_10, natAbs_2, Int.cast_ofNat_Int, Nat.reducePow, exists_and_left, exists_const, and_assoc, true_and, and_true, and_self, false_and, and_false, if_true, if_false, ite_true, ite_false, reduceCtorEq, decide_true, decide_false, decide_eq_true_eq, decide_eq_false_iff_not, Bool.not_true, Bool.not_false, Bool.false_eq_true, List.replicate_zero, List.replicate_succ, List.map_cons, List.map_nil, List.nil_append, List.cons_append, Nat.reduceSub, Nat.reduceAdd, Nat.reduceLeDiff, Nat.reduceLT, Int.reduceLT, Int.reduceLE, Int.reduceAdd, Int.reduceSub, Int.reduceMul, Int.reduceNeg, Int.reduceMod, Int.reduceDiv, Int.reducePow, Int.reduceToNat, okD_int, okD_bl, okD_lst, okD_tup, okD_non, okL_nil, okL_cons, okD_str, okL_int, eqD_int, eqD_bl, eqD_str, eqD_tup, eqD_lst, eqL_cons, eqL_nil, eqL_cn, eqL_nc, eqL_int, Bool.and_eq_true, Bool.or_eq_true, Bool.not_eq_true', Bool.and_false, Bool.false_and, Bool.or_false, Bool.false_or, Bool.or_true, Bool.true_or, Bool.and_true, Bool.true_and, Bool.and_self])
      unfold B__law_draw_12
      (try simp only [wSeq, wAsg, wOwn, wF, wLc, wSkip, wBrk, wCnt, wRet, wRetF, wRetN, wDrop, wIfS, wPar, wFor, wWh, wV, wApp, wExt, wSetIx, wAug, wVal, wLook, wC, wOp, wTst, wChain, wAnd, wOr, wNot, wAndV, wOrV, wNotV, wIf, wNil, wCons, wTup, wLst, wCall, wCB, wIsT, wiR1, wiR2, wiSq, wiEn, wiZip, gN, gT1, gT2, gT3, gT4, gT5, gT6, gT7, wYes, gAdd, DV.gSub, gMul, gMod, gDiv, gPow, gLt, gLe, gGt, gGe, gCmp, gEq, gNe, gIs, gIsN, isNon, gIn, gNotIn, gIx, gSlc, wSlc, wNoP, wPart, gLen, gAbs, gInt, gMin2, gMax2, gAll, gAny, gSum, gTuple, wNeg, wRev, itemsOf, D.isTy, D.isHand, Sl.toD, big_0, big_1, big_2, big_3, big_4, big_5, big_6, big_7, big_8, big_9, big_10, big_11, big_12, draw_iff, own_ex, val_ex, wipeE, restE, Sl.keep, Option.getD_some, get_z, get_s, set_z, set_s, List.length_cons, List.length_nil, atI_0, atI_1, atI_2, atI_3, atI_4, ixN_5_0, ixN_5_1, ixN_5_2, ixN_5_3, ixN_5_4, D.bl.injEq, D.int.injEq, D.lst.injEq, D.tup.injEq, D.str.injEq, Sl.own.injEq, Sl.val.injEq, Option.some.injEq, exists_eq_left', exists_eq_left, exists_eq', exists_eq, or_true, true_or, or_false, false_or, CMul, CPow, natAbs_10, natAbs_2, Int.cast_ofNat_Int, Nat.reducePow, exists_and_left, exists_const, and_assoc, true_and, and_true, and_self, false_and, and_false, if_true, if_false, ite_true, ite_false, reduceCtorEq, decide_true, decide_false, decide_eq_true_eq, decide_eq_false_iff_not, Bool.not_true, Bool.not_false, Bool.false_eq_true, List.replicate_zero, List.replicate_succ, List.map_cons, List.map_nil, List.nil_append, List.cons_append, Nat.reduceSub, Nat.reduceAdd, Nat.reduceLeDiff, Nat.reduceLT, Int.reduceLT, Int.reduceLE, Int.reduceAdd, Int.reduceSub, Int.reduceMul, Int.reduceNeg, Int.reduceMod, Int.reduceDiv, Int.reducePow, Int.reduceToNat, okD_int, okD_bl, okD_lst, okD_tup, okD_non, okL_nil, okL_cons, okD_str, okL_int, eqD_int, eqD_bl, eqD_str, eqD_tup, eqD_lst, eqL_cons, eqL_nil, eqL_cn, eqL_nc, eqL_int, Bool.and_eq_true, Bool.or_eq_true, Bool.not_eq_true', Bool.and_false, Bool.false_and, Bool.or_false, Bool.false_or, Bool.or_true, Bool.true_or, Bool.and_true, Bool.true_and, Bool.and_self])
      have k1 : 0 ≤ (st + 7919 * (cnt + 1)) * 48271 % 2147483647 := Int.emod_nonneg _ (by decide)
      have k2 : (st + 7919 * (cnt + 1)) * 48271 % 2147483647 < 2147483647 := Int.emod_lt_of_pos _ (by decide)
      unfold B__law_draw_13
      (try simp only [wSeq, wAsg, wOwn, wF, wLc, wSkip, wBrk, wCnt, wRet, wRetF, wRetN, wDrop, wIfS, wPar, wFor, wWh, wV, wApp, wExt, wSetIx, wAug, wVal, wLook, wC, wOp, wTst, wChain, wAnd, wOr, wNot, wAndV, wOrV, wNotV, wIf, wNil, wCons, wTup, wLst, wCall, wCB, wIsT, wiR1, wiR2, wiSq, wiEn, wiZip, gN, gT1, gT2, gT3, gT4, gT5, gT6, gT7, wYes, gAdd, DV.gSub, gMul, gMod, gDiv, gPow, gLt, gLe, gGt, gGe, gCmp, gEq, gNe, gIs, gIsN, isNon, gIn, gNotIn, gIx, gSlc, wSlc, wNoP, wPart, gLen, gAbs, gInt, gMin2, gMax2, gAll, gAny, gSum, gTuple, wNeg, wRev, itemsOf, D.isTy, D.isHand, Sl.toD, big_0, big_1, big_2, big_3, big_4, big_5, big_6, big_7, big_8, big_9, big_10, big_11, big_12, draw_iff, own_ex, val_ex, wipeE, restE, Sl.keep, Option.getD_some, get_z, get_s, set_z, set_s, List.length_cons, List.length_nil, atI_0, atI_1, atI_2, atI_3, atI_4, ixN_5_0, ixN_5_1, ixN_5_2, ixN_5_3, ixN_5_4, D.bl.injEq, D.int.injEq, D.lst.injEq, D.tup.injEq, D.str.injEq, Sl.own.injEq, Sl.val.injEq, Option.some.injEq, exists_eq_left', exists_eq_left, exists_eq', exists_eq, or_true, true_or, or_false, false_or, CMul, CPow, natAbs_10, natAbs_2, Int.cast_ofNat_Int, Nat.reducePow, exists_and_left, exists_const, and_assoc, true_and, and_true, and_self, false_and, and_false, if_true, if_false, ite_true, ite_false, reduceCtorEq, decide_true, decide_false, decide_eq_true_eq, decide_eq_false_iff_not, Bool.not_true, Bool.not_false, Bool.false_eq_true, List.replicate_zero, List.replicate_succ, List.map_cons, List.map_nil, List.nil_append, List.cons_append, Nat.reduceSub, Nat.reduceAdd, Nat.reduceLeDiff, Nat.reduceLT, Int.reduceLT, Int.reduceLE, Int.reduceAdd, Int.reduceSub, Int.reduceMul, Int.reduceNeg, Int.reduceMod, Int.reduceDiv, Int.reducePow, Int.reduceToNat, okD_int, okD_bl, okD_lst, okD_tup, okD_non, okL_nil, okL_cons, okD_str, okL_int, eqD_int, eqD_bl, eqD_str, eqD_tup, eqD_lst, eqL_cons, eqL_nil, eqL_cn, eqL_nc, eqL_int, Bool.and_eq_true, Bool.or_eq_true, Bool.not_eq_true', Bool.and_false, Bool.false_and, Bool.or_false, Bool.false_or, Bool.or_true, Bool.true_or, Bool.and_true, Bool.true_and, Bool.and_self])
      refine ⟨.inl ⟨by omega, by omega⟩, ?_⟩
      generalize (st + 7919 * (cnt + 1)) * 48271 % 2147483647 = a at *
      have k3 : 0 ≤ a * (a / 1009 + 69621) % 2147483647 := Int.emod_nonneg _ (by decide)
      have k4 : a * (a / 1009 + 69621) % 2147483647 < 2147483647 := Int.emod_lt_of_pos _ (by decide)
      unfold B__law_draw_14
      (try simp only [wSeq, wAsg, wOwn, wF, wLc, wSkip, wBrk, wCnt, wRet, wRetF, wRetN, wDrop, wIfS, wPar, wFor, wWh, wV, wApp, wExt, wSetIx, wAug, wVal, wLook, wC, wOp, wTst, wChain, wAnd, wOr, wNot, wAndV, wOrV, wNotV, wIf, wNil, wCons, wTup, wLst, wCall, wCB, wIsT, wiR1, wiR2, wiSq, wiEn, wiZip, gN, gT1, gT2, gT3, gT4, gT5, gT6, gT7, wYes, gAdd, DV.gSub, gMul, gMod, gDiv, gPow, gLt, gLe, gGt, gGe, gCmp, gEq, gNe, gIs, gIsN, isNon, gIn, gNotIn, gIx, gSlc, wSlc, wNoP, wPart, gLen, gAbs, gInt, gMin2, gMax2, gAll, gAny, gSum, gTuple, wNeg, wRev, itemsOf, D.isTy, D.isHand, Sl.toD, big_0, big_1, big_2, big_3, big_4, big_5, big_6, big_7, big_8, big_9, big_10, big_11, big_12, draw_iff, own_ex, val_ex, wipeE, restE, Sl.keep, Option.getD_some, get_z, get_s, set_z, set_s, List.length_cons, List.length_nil, atI_0, atI_1, atI_2, atI_3, atI_4, ixN_5_0, ixN_5_1, ixN_5_2, ixN_5_3, ixN_5_4, D.bl.injEq, D.int.injEq, D.lst.injEq, D.tup.injEq, D.str.injEq, Sl.own.injEq, Sl.val.injEq, Option.some.injEq, exists_eq_left', exists_eq_left, exists_eq', exists_eq, or_true, true_or, or_false, false_or, CMul, CPow, natAbs_10, natAbs_2, Int.cast_ofNat_Int, Nat.reducePow, exists_and_left, exists_const, and_assoc, true_and, and_true, and_self, false_and, and_false, if_true, if_false, ite_true, ite_false, reduceCtorEq, decide_true, decide_false, decide_eq_true_eq, decide_eq_false_iff_not, Bool.not_true, Bool.not_false, Bool.false_eq_true, List.replicate_zero, List.replicate_succ, List.map_cons, List.map_nil, List.nil_append, List.cons_append, Nat.reduceSub, Nat.reduceAdd, Nat.reduceLeDiff, Nat.reduceLT, Int.reduceLT, Int.reduceLE, Int.reduceAdd, Int.reduceSub, Int.reduceMul, Int.reduceNeg, Int.reduceMod, Int.reduceDiv, Int.reducePow, Int.reduceToNat, okD_int, okD_bl, okD_lst, okD_tup, okD_non, okL_nil, okL_cons, okD_str, okL_int, eqD_int, eqD_bl, eqD_str, eqD_tup, eqD_lst, eqL_cons, eqL_nil, eqL_cn, eqL_nc, eqL_int, Bool.and_eq_true, Bool.or_eq_true, Bool.not_eq_true', Bool.and_false, Bool.false_and, Bool.or_false, Bool.false_or, Bool.or_true, Bool.true_or, Bool.and_true, Bool.true_and, Bool.and_self])
      refine ⟨.inl ⟨by omega, by omega⟩, ?_⟩
      generalize a * (a / 1009 + 69621) % 2147483647 = b at *
      unfold B__law_draw_15
      (try simp only [wSeq, wAsg, wOwn, wF, wLc, wSkip, wBrk, wCnt, wRet, wRetF, wRetN, wDrop, wIfS, wPar, wFor, wWh, wV, wApp, wExt, wSetIx, wAug, wVal, wLook, wC, wOp, wTst, wChain, wAnd, wOr, wNot, wAndV, wOrV, wNotV, wIf, wNil, wCons, wTup, wLst, wCall, wCB, wIsT, wiR1, wiR2, wiSq, wiEn, wiZip, gN, gT1, gT2, gT3, gT4, gT5, gT6, gT7, wYes, gAdd, DV.gSub, gMul, gMod, gDiv, gPow, gLt, gLe, gGt, gGe, gCmp, gEq, gNe, gIs, gIsN, isNon, gIn, gNotIn, gIx, gSlc, wSlc, wNoP, wPart, gLen, gAbs, gInt, gMin2, gMax2, gAll, gAny, gSum, gTuple, wNeg, wRev, itemsOf, D.isTy, D.isHand, Sl.toD, big_0, big_1, big_2, big_3, big_4, big_5, big_6, big_7, big_8, big_9, big_10, big_11, big_12, draw_iff, own_ex, val_ex, wipeE, restE, Sl.keep, Option.getD_some, get_z, get_s, set_z, set_s, List.length_cons, List.length_nil, atI_0, atI_1, atI_2, atI_3, atI_4, ixN_5_0, ixN_5_1, ixN_5_2, ixN_5_3, ixN_5_4, D.bl.injEq, D.int.injEq, D.lst.injEq, D.tup.injEq, D.str.injEq, Sl.own.injEq, Sl.val.injEq, Option.some.injEq, exists_eq_left', exists_eq_left, exists_eq', exists_eq, or_true, true_or, or_false, false_or, CMul, CPow, natAbs_10, natAbs_2, Int.cast_ofNat_Int, Nat.reducePow, exists_and_left, exists_const, and_assoc, true_and, and_true, and_self, false_and, and_false, if_true, if_false, ite_true, ite_false, reduceCtorEq, decide_true, decide_false, decide_eq_true_eq, decide_eq_false_iff_not, Bool.not_true, Bool.not_false, Bool.false_eq_true, List.replicate_zero, List.replicate_succ, List.map_cons, List.map_nil, List.nil_append, List.cons_append, Nat.reduceSub, Nat.reduceAdd, Nat.reduceLeDiff, Nat.reduceLT, Int.reduceLT, Int.reduceLE, Int.reduceAdd, Int.reduceSub, Int.reduceMul, Int.reduceNeg, Int.reduceMod, Int.reduceDiv, Int.reducePow, Int.reduceToNat, okD_int, okD_bl, okD_lst, okD_tup, okD_non, okL_nil, okL_cons, okD_str, okL_int, eqD_int, eqD_bl, eqD_str, eqD_tup, eqD_lst, eqL_cons, eqL_nil, eqL_cn, eqL_nc, eqL_int, Bool.and_eq_true, Bool.or_eq_true, Bool.not_eq_true', Bool.and_false, Bool.false_and, Bool.or_false, Bool.false_or, Bool.or_true, Bool.true_or, Bool.and_true, Bool.true_and, Bool.and_self])
      refine ⟨hm, ?_⟩
      exact hq _ p _ st _ _ (Int.emod_nonneg _ (by omega)) (Int.emod_lt_of_pos _ hm) hb hs (by omega) hs2
  unfold B__law_draw handL
  (try simp only [wSeq, wAsg, wOwn, wF, wLc, wSkip, wBrk, wCnt, wRet, wRetF, wRetN, wDrop, wIfS, wPar, wFor, wWh, wV, wApp, wExt, wSetIx, wAug, wVal, wLook, wC, wOp, wTst, wChain, wAnd, wOr, wNot, wAndV, wOrV, wNotV, wIf, wNil, wCons, wTup, wLst, wCall, wCB, wIsT, wiR1, wiR2, wiSq, wiEn, wiZip, gN, gT1, gT2, gT3, gT4, gT5, gT6, gT7, wYes, gAdd, DV.gSub, gMul, gMod, gDiv, gPow, gLt, gLe, gGt, gGe, gCmp, gEq, gNe, gIs, gIsN, isNon, gIn, gNotIn, gIx, gSlc, wSlc, wNoP, wPart, gLen, gAbs, gInt, gMin2, gMax2, gAll, gAny, gSum, gTuple, wNeg, wRev, itemsOf, D.isTy, D.isHand, Sl.toD, big_0, big_1, big_2, big_3, big_4, big_5, big_6, big_7, big_8, big_9, big_10, big_11, big_12, draw_iff, own_ex, val_ex, wipeE, restE, Sl.keep, Option.getD_some, get_z, get_s, set_z, set_s, List.length_cons, List.length_nil, atI_0, atI_1, atI_2, atI_3, atI_4, ixN_5_0, ixN_5_1, ixN_5_2, ixN_5_3, ixN_5_4, D.bl.injEq, D.int.injEq, D.lst.injEq, D.tup.injEq, D.str.injEq, Sl.own.injEq, Sl.val.injEq, Option.some.injEq, exists_eq_left', exists_eq_left, exists_eq', exists_eq, or_true, true_or, or_false, false_or, CMul, CPow, natAbs_10, natAbs_2, Int.cast_ofNat_Int, Nat.reducePow, exists_and_left, exists_const, and_assoc, true_and, and_true, and_self, false_and, and_false, if_true, if_false, ite_true, ite_false, reduceCtorEq, decide_true, decide_false, decide_eq_true_eq, decide_eq_false_iff_not, Bool.not_true, Bool.not_false, Bool.false_eq_true, List.replicate_zero, List.replicate_succ, List.map_cons, List.map_nil, List.nil_append, List.cons_append, Nat.reduceSub, Nat.reduceAdd, Nat.reduceLeDiff, Nat.reduceLT, Int.reduceLT, Int.reduceLE, Int.reduceAdd, Int.reduceSub, Int.reduceMul, Int.reduceNeg, Int.reduceMod, Int.reduceDiv, Int.reducePow, Int.reduceToNat, okD_int, okD_bl, okD_lst, okD_tup, okD_non, okL_nil, okL_cons, okD_str, okL_int, eqD_int, eqD_bl, eqD_str, eqD_tup, eqD_lst, eqL_cons, eqL_nil, eqL_cn, eqL_nc, eqL_int, Bool.and_eq_true, Bool.or_eq_true, Bool.not_eq_true', Bool.and_false, Bool.false_and, Bool.or_false, Bool.false_or, Bool.or_true, Bool.true_or, Bool.and_true, Bool.true_and, Bool.and_self])
  split
  · rename_i hbz
    have hz : bg = 0 := by simpa [eqD_int] using hbz
    subst hz
    split
    · rename_i hp
      have hp2 : p < cells.length := by simpa using hp
      unfold B__law_draw_2
      have e1 : atI (List.map D.int cells) (p : Int) = some (.int cells[p]) := by
        rw [atI_nat rfl, List.getElem?_map, List.getElem?_eq_getElem hp2]; rfl
      have hcp := hc _ (List.getElem_mem hp2)
      generalize cells[p] = c at *
      simp only [wSeq, wAsg, wOwn, wF, wLc, wSkip, wBrk, wCnt, wRet, wRetF, wRetN, wDrop, wIfS, wPar, wFor, wWh, wV, wApp, wExt, wSetIx, wAug, wVal, wLook, wC, wOp, wTst, wChain, wAnd, wOr, wNot, wAndV, wOrV, wNotV, wIf, wNil, wCons, wTup, wLst, wCall, wCB, wIsT, wiR1, wiR2, wiSq, wiEn, wiZip, gN, gT1, gT2, gT3, gT4, gT5, gT6, gT7, wYes, gAdd, DV.gSub, gMul, gMod, gDiv, gPow, gLt, gLe, gGt, gGe, gCmp, gEq, gNe, gIs, gIsN, isNon, gIn, gNotIn, gIx, gSlc, wSlc, wNoP, wPart, gLen, gAbs, gInt, gMin2, gMax2, gAll, gAny, gSum, gTuple, wNeg, wRev, itemsOf, D.isTy, D.isHand, Sl.toD, big_0, big_1, big_2, big_3, big_4, big_5, big_6, big_7, big_8, big_9, big_10, big_11, big_12, draw_iff, own_ex, val_ex, wipeE, restE, Sl.keep, Option.getD_some, get_z, get_s, set_z, set_s, List.length_cons, List.length_nil, atI_0, atI_1, atI_2, atI_3, atI_4, ixN_5_0, ixN_5_1, ixN_5_2, ixN_5_3, ixN_5_4, D.bl.injEq, D.int.injEq, D.lst.injEq, D.tup.injEq, D.str.injEq, Sl.own.injEq, Sl.val.injEq, Option.some.injEq, exists_eq_left', exists_eq_left, exists_eq', exists_eq, or_true, true_or, or_false, false_or, CMul, CPow, natAbs_10, natAbs_2, Int.cast_ofNat_Int, Nat.reducePow, exists_and_left, exists_const, and_assoc, true_and, and_true, and_self, false_and, and_false, if_true, if_false, ite_true, ite_false, reduceCtorEq, decide_true, decide_false, decide_eq_true_eq, decide_eq_false_iff_not, Bool.not_true, Bool.not_false, Bool.false_eq_true, List.replicate_zero, List.replicate_succ, List.map_cons, List.map_nil, List.nil_append, List.cons_append, Nat.reduceSub, Nat.reduceAdd, Nat.reduceLeDiff, Nat.reduceLT, Int.reduceLT, Int.reduceLE, Int.reduceAdd, Int.reduceSub, Int.reduceMul, Int.reduceNeg, Int.reduceMod, Int.reduceDiv, Int.reducePow, Int.reduceToNat, okD_int, okD_bl, okD_lst, okD_tup, okD_non, okL_nil, okL_cons, okD_str, okL_int, eqD_int, eqD_bl, eqD_str, eqD_tup, eqD_lst, eqL_cons, eqL_nil, eqL_cn, eqL_nc, eqL_int, Bool.and_eq_true, Bool.or_eq_true, Bool.not_eq_true', Bool.and_false, Bool.false_and, Bool.or_false, Bool.false_or, Bool.or_true, Bool.true_or, Bool.and_true, Bool.true_and, Bool.and_self, e1]
      unfold B__law_draw_3
      (try simp only [wSeq, wAsg, wOwn, wF, wLc, wSkip, wBrk, wCnt, wRet, wRetF, wRetN, wDrop, wIfS, wPar, wFor, wWh, wV, wApp, wExt, wSetIx, wAug, wVal, wLook, wC, wOp, wTst, wChain, wAnd, wOr, wNot, wAndV, wOrV, wNotV, wIf, wNil, wCons, wTup, wLst, wCall, wCB, wIsT, wiR1, wiR2, wiSq, wiEn, wiZip, gN, gT1, gT2, gT3, gT4, gT5, gT6, gT7, wYes, gAdd, DV.gSub, gMul, gMod, gDiv, gPow, gLt, gLe, gGt, gGe, gCmp, gEq, gNe, gIs, gIsN, isNon, gIn, gNotIn, gIx, gSlc, wSlc, wNoP, wPart, gLen, gAbs, gInt, gMin2, gMax2, gAll, gAny, gSum, gTuple, wNeg, wRev, itemsOf, D.isTy, D.isHand, Sl.toD, big_0, big_1, big_2, big_3, big_4, big_5, big_6, big_7, big_8, big_9, big_10, big_11, big_12, draw_iff, own_ex, val_ex, wipeE, restE, Sl.keep, Option.getD_some, get_z, get_s, set_z, set_s, List.length_cons, List.length_nil, atI_0, atI_1, atI_2, atI_3, atI_4, ixN_5_0, ixN_5_1, ixN_5_2, ixN_5_3, ixN_5_4, D.bl.injEq, D.int.injEq, D.lst.injEq, D.tup.injEq, D.str.injEq, Sl.own.injEq, Sl.val.injEq, Option.some.injEq, exists_eq_left', exists_eq_left, exists_eq', exists_eq, or_true, true_or, or_false, false_or, CMul, CPow, natAbs_10, natAbs_2, Int.cast_ofNat_Int, Nat.reducePow, exists_and_left, exists_const, and_assoc, true_and, and_true, and_self, false_and, and_false, if_true, if_false, ite_true, ite_false, reduceCtorEq, decide_true, decide_false, decide_eq_true_eq, decide_eq_false_iff_not, Bool.not_true, Bool.not_false, Bool.false_eq_true, List.replicate_zero, List.replicate_succ, List.map_cons, List.map_nil, List.nil_append, List.cons_append, Nat.reduceSub, Nat.reduceAdd, Nat.reduceLeDiff, Nat.reduceLT, Int.reduceLT, Int.reduceLE, Int.reduceAdd, Int.reduceSub, Int.reduceMul, Int.reduceNeg, Int.reduceMod, Int.reduceDiv, Int.reducePow, Int.reduceToNat, okD_int, okD_bl, okD_lst, okD_tup, okD_non, okL_nil, okL_cons, okD_str, okL_int, eqD_int, eqD_bl, eqD_str, eqD_tup, eqD_lst, eqL_cons, eqL_nil, eqL_cn, eqL_nc, eqL_int, Bool.and_eq_true, Bool.or_eq_true, Bool.not_eq_true', Bool.and_false, Bool.false_and, Bool.or_false, Bool.false_or, Bool.or_true, Bool.true_or, Bool.and_true, Bool.true_and, Bool.and_self])
      unfold B__law_draw_4
      (try simp only [wSeq, wAsg, wOwn, wF, wLc, wSkip, wBrk, wCnt, wRet, wRetF, wRetN, wDrop, wIfS, wPar, wFor, wWh, wV, wApp, wExt, wSetIx, wAug, wVal, wLook, wC, wOp, wTst, wChain, wAnd, wOr, wNot, wAndV, wOrV, wNotV, wIf, wNil, wCons, wTup, wLst, wCall, wCB, wIsT, wiR1, wiR2, wiSq, wiEn, wiZip, gN, gT1, gT2, gT3, gT4, gT5, gT6, gT7, wYes, gAdd, DV.gSub, gMul, gMod, gDiv, gPow, gLt, gLe, gGt, gGe, gCmp, gEq, gNe, gIs, gIsN, isNon, gIn, gNotIn, gIx, gSlc, wSlc, wNoP, wPart, gLen, gAbs, gInt, gMin2, gMax2, gAll, gAny, gSum, gTuple, wNeg, wRev, itemsOf, D.isTy, D.isHand, Sl.toD, big_0, big_1, big_2, big_3, big_4, big_5, big_6, big_7, big_8, big_9, big_10, big_11, big_12, draw_iff, own_ex, val_ex, wipeE, restE, Sl.keep, Option.getD_some, get_z, get_s, set_z, set_s, List.length_cons, List.length_nil, atI_0, atI_1, atI_2, atI_3, atI_4, ixN_5_0, ixN_5_1, ixN_5_2, ixN_5_3, ixN_5_4, D.bl.injEq, D.int.injEq, D.lst.injEq, D.tup.injEq, D.str.injEq, Sl.own.injEq, Sl.val.injEq, Option.some.injEq, exists_eq_left', exists_eq_left, exists_eq', exists_eq, or_true, true_or, or_false, false_or, CMul, CPow, natAbs_10, natAbs_2, Int.cast_ofNat_Int, Nat.reducePow, exists_and_left, exists_const, and_assoc, true_and, and_true, and_self, false_and, and_false, if_true, if_false, ite_true, ite_false, reduceCtorEq, decide_true, decide_false, decide_eq_true_eq, decide_eq_false_iff_not, Bool.not_true, Bool.not_false, Bool.false_eq_true, List.replicate_zero, List.replicate_succ, List.map_cons, List.map_nil, List.nil_append, List.cons_append, Nat.reduceSub, Nat.reduceAdd, Nat.reduceLeDiff, Nat.reduceLT, Int.reduceLT, Int.reduceLE, Int.reduceAdd, Int.reduceSub, Int.reduceMul, Int.reduceNeg, Int.reduceMod, Int.reduceDiv, Int.reducePow, Int.reduceToNat, okD_int, okD_bl, okD_lst, okD_tup, okD_non, okL_nil, okL_cons, okD_str, okL_int, eqD_int, eqD_bl, eqD_str, eqD_tup, eqD_lst, eqL_cons, eqL_nil, eqL_cn, eqL_nc, eqL_int, Bool.and_eq_true, Bool.or_eq_true, Bool.not_eq_true', Bool.and_false, Bool.false_and, Bool.or_false, Bool.false_or, Bool.or_true, Bool.true_or, Bool.and_true, Bool.true_and, Bool.and_self])
      have k1 : 0 ≤ (st * 69621 + c + 419) % 2147483629 := Int.emod_nonneg _ (by decide)
      have k2 : (st * 69621 + c + 419) % 2147483629 < 2147483629 := Int.emod_lt_of_pos _ (by decide)
      unfold B__law_draw_5
      (try simp only [wSeq, wAsg, wOwn, wF, wLc, wSkip, wBrk, wCnt, wRet, wRetF, wRetN, wDrop, wIfS, wPar, wFor, wWh, wV, wApp, wExt, wSetIx, wAug, wVal, wLook, wC, wOp, wTst, wChain, wAnd, wOr, wNot, wAndV, wOrV, wNotV, wIf, wNil, wCons, wTup, wLst, wCall, wCB, wIsT, wiR1, wiR2, wiSq, wiEn, wiZip, gN, gT1, gT2, gT3, gT4, gT5, gT6, gT7, wYes, gAdd, DV.gSub, gMul, gMod, gDiv, gPow, gLt, gLe, gGt, gGe, gCmp, gEq, gNe, gIs, gIsN, isNon, gIn, gNotIn, gIx, gSlc, wSlc, wNoP, wPart, gLen, gAbs, gInt, gMin2, gMax2, gAll, gAny, gSum, gTuple, wNeg, wRev, itemsOf, D.isTy, D.isHand, Sl.toD, big_0, big_1, big_2, big_3, big_4, big_5, big_6, big_7, big_8, big_9, big_10, big_11, big_12, draw_iff, own_ex, val_ex, wipeE, restE, Sl.keep, Option.getD_some, get_z, get_s, set_z, set_s, List.length_cons, List.length_nil, atI_0, atI_1, atI_2, atI_3, atI_4, ixN_5_0, ixN_5_1, ixN_5_2, ixN_5_3, ixN_5_4, D.bl.injEq, D.int.injEq, D.lst.injEq, D.tup.injEq, D.str.injEq, Sl.own.injEq, Sl.val.injEq, Option.some.injEq, exists_eq_left', exists_eq_left, exists_eq', exists_eq, or_true, true_or, or_false, false_or, CMul, CPow, natAbs_10, natAbs_2, Int.cast_ofNat_Int, Nat.reducePow, exists_and_left, exists_const, and_assoc, true_and, and_true, and_self, false_and, and_false, if_true, if_false, ite_true, ite_false, reduceCtorEq, decide_true, decide_false, decide_eq_true_eq, decide_eq_false_iff_not, Bool.not_true, Bool.not_false, Bool.false_eq_true, List.replicate_zero, List.replicate_succ, List.map_cons, List.map_nil, List.nil_append, List.cons_append, Nat.reduceSub, Nat.reduceAdd, Nat.reduceLeDiff, Nat.reduceLT, Int.reduceLT, Int.reduceLE, Int.reduceAdd, Int.reduceSub, Int.reduceMul, Int.reduceNeg, Int.reduceMod, Int.reduceDiv, Int.reducePow, Int.reduceToNat, okD_int, okD_bl, okD_lst, okD_tup, okD_non, okL_nil, okL_cons, okD_str, okL_int, eqD_int, eqD_bl, eqD_str, eqD_tup, eqD_lst, eqL_cons, eqL_nil, eqL_cn, eqL_nc, eqL_int, Bool.and_eq_true, Bool.or_eq_true, Bool.not_eq_true', Bool.and_false, Bool.false_and, Bool.or_false, Bool.false_or, Bool.or_true, Bool.true_or, Bool.and_true, Bool.true_and, Bool.and_self])
      split
      · exact last (p + 1) c _ cnt _ _ (by omega) k1 hn (by omega) _
      · exact last (p + 1) 0 _ cnt _ _ (by omega) k1 hn (by omega) _
    · exact last p 0 st cnt _ _ (by omega) hs hn hs2 _
  · exact last p bg st cnt _ _ hb hs hn hs2 _

section
variable {Q : D → Prop} {E : Er → Prop}
theorem sp_is_integer {x : Int} : T_is_integer [.int x] Q E ↔ Q (.bl true) := by
  unfold T_is_integer wFn B_is_integer
  (try simp only [wSeq, wAsg, wOwn, wF, wLc, wSkip, wBrk, wCnt, wRet, wRetF, wRetN, wDrop, wIfS, wPar, wFor, wWh, wV, wApp, wExt, wSetIx, wAug, wVal, wLook, wC, wOp, wTst, wChain, wAnd, wOr, wNot, wAndV, wOrV, wNotV, wIf, wNil, wCons, wTup, wLst, wCall, wCB, wIsT, wiR1, wiR2, wiSq, wiEn, wiZip, gN, gT1, gT2, gT3, gT4, gT5, gT6, gT7, wYes, gAdd, DV.gSub, gMul, gMod, gDiv, gPow, gLt, gLe, gGt, gGe, gCmp, gEq, gNe, gIs, gIsN, isNon, gIn, gNotIn, gIx, gSlc, wSlc, wNoP, wPart, gLen, gAbs, gInt, gMin2, gMax2, gAll, gAny, gSum, gTuple, wNeg, wRev, itemsOf, D.isTy, D.isHand, Sl.toD, big_0, big_1, big_2, big_3, big_4, big_5, big_6, big_7, big_8, big_9, big_10, big_11, big_12, draw_iff, own_ex, val_ex, wipeE, restE, Sl.keep, Option.getD_some, get_z, get_s, set_z, set_s, List.length_cons, List.length_nil, atI_0, atI_1, atI_2, atI_3, atI_4, ixN_5_0, ixN_5_1, ixN_5_2, ixN_5_3, ixN_5_4, D.bl.injEq, D.int.injEq, D.lst.injEq, D.tup.injEq, D.str.injEq, Sl.own.injEq, Sl.val.injEq, Option.some.injEq, exists_eq_left', exists_eq_left, exists_eq', exists_eq, or_true, true_or, or_false, false_or, CMul, CPow, natAbs_10, natAbs_2, Int.cast_ofNat_Int, Nat.reducePow, exists_and_left, exists_const, and_assoc, true_and, and_true, and_self, false_and, and_false, if_true, if_false, ite_true, ite_false, reduceCtorEq, decide_true, decide_false, decide_eq_true_eq, decide_eq_false_iff_not, Bool.not_true, Bool.not_false, Bool.false_eq_true, List.replicate_zero, List.replicate_succ, List.map_cons, List.map_nil, List.nil_append, List.cons_append, Nat.reduceSub, Nat.reduceAdd, Nat.reduceLeDiff, Nat.reduceLT, Int.reduceLT, Int.reduceLE, Int.reduceAdd, Int.reduceSub, Int.reduceMul, Int.reduceNeg, Int.reduceMod, Int.reduceDiv, Int.reducePow, Int.reduceToNat, okD_int, okD_bl, okD_lst, okD_tup, okD_non, okL_nil, okL_cons, okD_str, okL_int, eqD_int, eqD_bl, eqD_str, eqD_tup, eqD_lst, eqL_cons, eqL_nil, eqL_cn, eqL_nc, eqL_int, Bool.and_eq_true, Bool.or_eq_true, Bool.not_eq_true', Bool.and_false, Bool.false_and, Bool.or_false, Bool.false_or, Bool.or_true, Bool.true_or, Bool.and_true, Bool.true_and, Bool.and_self])
end

section
variable {Q : D → Prop} {E : Er → Prop}
theorem sp_is_within {x lo hi : Int} : T_is_within [.int x, .int lo, .int hi] Q E ↔ Q (.bl (decide (lo ≤ x) && decide (x ≤ hi))) := by
  unfold T_is_within wFn B_is_within
  simp only [wSeq, wAsg, wOwn, wF, wLc, wSkip, wBrk, wCnt, wRet, wRetF, wRetN, wDrop, wIfS, wPar, wFor, wWh, wV, wApp, wExt, wSetIx, wAug, wVal, wLook, wC, wOp, wTst, wChain, wAnd, wOr, wNot, wAndV, wOrV, wNotV, wIf, wNil, wCons, wTup, wLst, wCall, wCB, wIsT, wiR1, wiR2, wiSq, wiEn, wiZip, gN, gT1, gT2, gT3, gT4, gT5, gT6, gT7, wYes, gAdd, DV.gSub, gMul, gMod, gDiv, gPow, gLt, gLe, gGt, gGe, gCmp, gEq, gNe, gIs, gIsN, isNon, gIn, gNotIn, gIx, gSlc, wSlc, wNoP, wPart, gLen, gAbs, gInt, gMin2, gMax2, gAll, gAny, gSum, gTuple, wNeg, wRev, itemsOf, D.isTy, D.isHand, Sl.toD, big_0, big_1, big_2, big_3, big_4, big_5, big_6, big_7, big_8, big_9, big_10, big_11, big_12, draw_iff, own_ex, val_ex, wipeE, restE, Sl.keep, Option.getD_some, get_z, get_s, set_z, set_s, List.length_cons, List.length_nil, atI_0, atI_1, atI_2, atI_3, atI_4, ixN_5_0, ixN_5_1, ixN_5_2, ixN_5_3, ixN_5_4, D.bl.injEq, D.int.injEq, D.lst.injEq, D.tup.injEq, D.str.injEq, Sl.own.injEq, Sl.val.injEq, Option.some.injEq, exists_eq_left', exists_eq_left, exists_eq', exists_eq, or_true, true_or, or_false, false_or, CMul, CPow, natAbs_10, natAbs_2, Int.cast_ofNat_Int, Nat.reducePow, exists_and_left, exists_const, and_assoc, true_and, and_true, and_self, false_and, and_false, if_true, if_false, ite_true, ite_false, reduceCtorEq, decide_true, decide_false, decide_eq_true_eq, decide_eq_false_iff_not, Bool.not_true, Bool.not_false, Bool.false_eq_true, List.replicate_zero, List.replicate_succ, List.map_cons, List.map_nil, List.nil_append, List.cons_append, Nat.reduceSub, Nat.reduceAdd, Nat.reduceLeDiff, Nat.reduceLT, Int.reduceLT, Int.reduceLE, Int.reduceAdd, Int.reduceSub, Int.reduceMul, Int.reduceNeg, Int.reduceMod, Int.reduceDiv, Int.reducePow, Int.reduceToNat, okD_int, okD_bl, okD_lst, okD_tup, okD_non, okL_nil, okL_cons, okD_str, okL_int, eqD_int, eqD_bl, eqD_str, eqD_tup, eqD_lst, eqL_cons, eqL_nil, eqL_cn, eqL_nc, eqL_int, Bool.and_eq_true, Bool.or_eq_true, Bool.not_eq_true', Bool.and_false, Bool.false_and, Bool.or_false, Bool.false_or, Bool.or_true, Bool.true_or, Bool.and_true, Bool.true_and, Bool.and_self, sp_is_integer]
  by_cases h : lo ≤ x <;> simp [h]
end

section
variable {Q : D → Prop} {E : Er → Prop}
theorem sp_check_number {x lo hi : Int} (h1 : lo ≤ x) (h2 : x ≤ hi) : T_check_number [.int x, .int lo, .int hi] Q E ↔ Q .non := by
  unfold T_check_number wFn B_check_number
  simp only [wSeq, wAsg, wOwn, wF, wLc, wSkip, wBrk, wCnt, wRet, wRetF, wRetN, wDrop, wIfS, wPar, wFor, wWh, wV, wApp, wExt, wSetIx, wAug, wVal, wLook, wC, wOp, wTst, wChain, wAnd, wOr, wNot, wAndV, wOrV, wNotV, wIf, wNil, wCons, wTup, wLst, wCall, wCB, wIsT, wiR1, wiR2, wiSq, wiEn, wiZip, gN, gT1, gT2, gT3, gT4, gT5, gT6, gT7, wYes, gAdd, DV.gSub, gMul, gMod, gDiv, gPow, gLt, gLe, gGt, gGe, gCmp, gEq, gNe, gIs, gIsN, isNon, gIn, gNotIn, gIx, gSlc, wSlc, wNoP, wPart, gLen, gAbs, gInt, gMin2, gMax2, gAll, gAny, gSum, gTuple, wNeg, wRev, itemsOf, D.isTy, D.isHand, Sl.toD, big_0, big_1, big_2, big_3, big_4, big_5, big_6, big_7, big_8, big_9, big_10, big_11, big_12, draw_iff, own_ex, val_ex, wipeE, restE, Sl.keep, Option.getD_some, get_z, get_s, set_z, set_s, List.length_cons, List.length_nil, atI_0, atI_1, atI_2, atI_3, atI_4, ixN_5_0, ixN_5_1, ixN_5_2, ixN_5_3, ixN_5_4, D.bl.injEq, D.int.injEq, D.lst.injEq, D.tup.injEq, D.str.injEq, Sl.own.injEq, Sl.val.injEq, Option.some.injEq, exists_eq_left', exists_eq_left, exists_eq', exists_eq, or_true, true_or, or_false, false_or, CMul, CPow, natAbs_10, natAbs_2, Int.cast_ofNat_Int, Nat.reducePow, exists_and_left, exists_const, and_assoc, true_and, and_true, and_self, false_and, and_false, if_true, if_false, ite_true, ite_false, reduceCtorEq, decide_true, decide_false, decide_eq_true_eq, decide_eq_false_iff_not, Bool.not_true, Bool.not_false, Bool.false_eq_true, List.replicate_zero, List.replicate_succ, List.map_cons, List.map_nil, List.nil_append, List.cons_append, Nat.reduceSub, Nat.reduceAdd, Nat.reduceLeDiff, Nat.reduceLT, Int.reduceLT, Int.reduceLE, Int.reduceAdd, Int.reduceSub, Int.reduceMul, Int.reduceNeg, Int.reduceMod, Int.reduceDiv, Int.reducePow, Int.reduceToNat, okD_int, okD_bl, okD_lst, okD_tup, okD_non, okL_nil, okL_cons, okD_str, okL_int, eqD_int, eqD_bl, eqD_str, eqD_tup, eqD_lst, eqL_cons, eqL_nil, eqL_cn, eqL_nc, eqL_int, Bool.and_eq_true, Bool.or_eq_true, Bool.not_eq_true', Bool.and_false, Bool.false_and, Bool.or_false, Bool.false_or, Bool.or_true, Bool.true_or, Bool.and_true, Bool.true_and, Bool.and_self, sp_is_within, h1, h2]
end

section
variable {Q : D → Prop} {E : Er → Prop}
theorem sp_check_fit {base q : Int} (h1 : 2 ≤ base) (h2 : base ≤ 36) (h3 : 2 ≤ q) (h4 : q ≤ 200) (h5 : q ≤ base * base) : T_check_fit [.int base, .int q] Q E ↔ Q .non := by
  unfold T_check_fit wFn B_check_fit
  simp only [wSeq, wAsg, wOwn, wF, wLc, wSkip, wBrk, wCnt, wRet, wRetF, wRetN, wDrop, wIfS, wPar, wFor, wWh, wV, wApp, wExt, wSetIx, wAug, wVal, wLook, wC, wOp, wTst, wChain, wAnd, wOr, wNot, wAndV, wOrV, wNotV, wIf, wNil, wCons, wTup, wLst, wCall, wCB, wIsT, wiR1, wiR2, wiSq, wiEn, wiZip, gN, gT1, gT2, gT3, gT4, gT5, gT6, gT7, wYes, gAdd, DV.gSub, gMul, gMod, gDiv, gPow, gLt, gLe, gGt, gGe, gCmp, gEq, gNe, gIs, gIsN, isNon, gIn, gNotIn, gIx, gSlc, wSlc, wNoP, wPart, gLen, gAbs, gInt, gMin2, gMax2, gAll, gAny, gSum, gTuple, wNeg, wRev, itemsOf, D.isTy, D.isHand, Sl.toD, big_0, big_1, big_2, big_3, big_4, big_5, big_6, big_7, big_8, big_9, big_10, big_11, big_12, draw_iff, own_ex, val_ex, wipeE, restE, Sl.keep, Option.getD_some, get_z, get_s, set_z, set_s, List.length_cons, List.length_nil, atI_0, atI_1, atI_2, atI_3, atI_4, ixN_5_0, ixN_5_1, ixN_5_2, ixN_5_3, ixN_5_4, D.bl.injEq, D.int.injEq, D.lst.injEq, D.tup.injEq, D.str.injEq, Sl.own.injEq, Sl.val.injEq, Option.some.injEq, exists_eq_left', exists_eq_left, exists_eq', exists_eq, or_true, true_or, or_false, false_or, CMul, CPow, natAbs_10, natAbs_2, Int.cast_ofNat_Int, Nat.reducePow, exists_and_left, exists_const, and_assoc, true_and, and_true, and_self, false_and, and_false, if_true, if_false, ite_true, ite_false, reduceCtorEq, decide_true, decide_false, decide_eq_true_eq, decide_eq_false_iff_not, Bool.not_true, Bool.not_false, Bool.false_eq_true, List.replicate_zero, List.replicate_succ, List.map_cons, List.map_nil, List.nil_append, List.cons_append, Nat.reduceSub, Nat.reduceAdd, Nat.reduceLeDiff, Nat.reduceLT, Int.reduceLT, Int.reduceLE, Int.reduceAdd, Int.reduceSub, Int.reduceMul, Int.reduceNeg, Int.reduceMod, Int.reduceDiv, Int.reducePow, Int.reduceToNat, okD_int, okD_bl, okD_lst, okD_tup, okD_non, okL_nil, okL_cons, okD_str, okL_int, eqD_int, eqD_bl, eqD_str, eqD_tup, eqD_lst, eqL_cons, eqL_nil, eqL_cn, eqL_nc, eqL_int, Bool.and_eq_true, Bool.or_eq_true, Bool.not_eq_true', Bool.and_false, Bool.false_and, Bool.or_false, Bool.false_or, Bool.or_true, Bool.true_or, Bool.and_true, Bool.true_and, Bool.and_self, sp_check_number h1 h2]
  unfold B_check_fit_2
  simp only [wSeq, wAsg, wOwn, wF, wLc, wSkip, wBrk, wCnt, wRet, wRetF, wRetN, wDrop, wIfS, wPar, wFor, wWh, wV, wApp, wExt, wSetIx, wAug, wVal, wLook, wC, wOp, wTst, wChain, wAnd, wOr, wNot, wAndV, wOrV, wNotV, wIf, wNil, wCons, wTup, wLst, wCall, wCB, wIsT, wiR1, wiR2, wiSq, wiEn, wiZip, gN, gT1, gT2, gT3, gT4, gT5, gT6, gT7, wYes, gAdd, DV.gSub, gMul, gMod, gDiv, gPow, gLt, gLe, gGt, gGe, gCmp, gEq, gNe, gIs, gIsN, isNon, gIn, gNotIn, gIx, gSlc, wSlc, wNoP, wPart, gLen, gAbs, gInt, gMin2, gMax2, gAll, gAny, gSum, gTuple, wNeg, wRev, itemsOf, D.isTy, D.isHand, Sl.toD, big_0, big_1, big_2, big_3, big_4, big_5, big_6, big_7, big_8, big_9, big_10, big_11, big_12, draw_iff, own_ex, val_ex, wipeE, restE, Sl.keep, Option.getD_some, get_z, get_s, set_z, set_s, List.length_cons, List.length_nil, atI_0, atI_1, atI_2, atI_3, atI_4, ixN_5_0, ixN_5_1, ixN_5_2, ixN_5_3, ixN_5_4, D.bl.injEq, D.int.injEq, D.lst.injEq, D.tup.injEq, D.str.injEq, Sl.own.injEq, Sl.val.injEq, Option.some.injEq, exists_eq_left', exists_eq_left, exists_eq', exists_eq, or_true, true_or, or_false, false_or, CMul, CPow, natAbs_10, natAbs_2, Int.cast_ofNat_Int, Nat.reducePow, exists_and_left, exists_const, and_assoc, true_and, and_true, and_self, false_and, and_false, if_true, if_false, ite_true, ite_false, reduceCtorEq, decide_true, decide_false, decide_eq_true_eq, decide_eq_false_iff_not, Bool.not_true, Bool.not_false, Bool.false_eq_true, List.replicate_zero, List.replicate_succ, List.map_cons, List.map_nil, List.nil_append, List.cons_append, Nat.reduceSub, Nat.reduceAdd, Nat.reduceLeDiff, Nat.reduceLT, Int.reduceLT, Int.reduceLE, Int.reduceAdd, Int.reduceSub, Int.reduceMul, Int.reduceNeg, Int.reduceMod, Int.reduceDiv, Int.reducePow, Int.reduceToNat, okD_int, okD_bl, okD_lst, okD_tup, okD_non, okL_nil, okL_cons, okD_str, okL_int, eqD_int, eqD_bl, eqD_str, eqD_tup, eqD_lst, eqL_cons, eqL_nil, eqL_cn, eqL_nc, eqL_int, Bool.and_eq_true, Bool.or_eq_true, Bool.not_eq_true', Bool.and_false, Bool.false_and, Bool.or_false, Bool.false_or, Bool.or_true, Bool.true_or, Bool.and_true, Bool.true_and, Bool.and_self, sp_check_number h3 h4]
  unfold B_check_fit_3
  have : ¬ base * base < q := by omega
  simp only [wSeq, wAsg, wOwn, wF, wLc, wSkip, wBrk, wCnt, wRet, wRetF, wRetN, wDrop, wIfS, wPar, wFor, wWh, wV, wApp, wExt, wSetIx, wAug, wVal, wLook, wC, wOp, wTst, wChain, wAnd, wOr, wNot, wAndV, wOrV, wNotV, wIf, wNil, wCons, wTup, wLst, wCall, wCB, wIsT, wiR1, wiR2, wiSq, wiEn, wiZip, gN, gT1, gT2, gT3, gT4, gT5, gT6, gT7, wYes, gAdd, DV.gSub, gMul, gMod, gDiv, gPow, gLt, gLe, gGt, gGe, gCmp, gEq, gNe, gIs, gIsN, isNon, gIn, gNotIn, gIx, gSlc, wSlc, wNoP, wPart, gLen, gAbs, gInt, gMin2, gMax2, gAll, gAny, gSum, gTuple, wNeg, wRev, itemsOf, D.isTy, D.isHand, Sl.toD, big_0, big_1, big_2, big_3, big_4, big_5, big_6, big_7, big_8, big_9, big_10, big_11, big_12, draw_iff, own_ex, val_ex, wipeE, restE, Sl.keep, Option.getD_some, get_z, get_s, set_z, set_s, List.length_cons, List.length_nil, atI_0, atI_1, atI_2, atI_3, atI_4, ixN_5_0, ixN_5_1, ixN_5_2, ixN_5_3, ixN_5_4, D.bl.injEq, D.int.injEq, D.lst.injEq, D.tup.injEq, D.str.injEq, Sl.own.injEq, Sl.val.injEq, Option.some.injEq, exists_eq_left', exists_eq_left, exists_eq', exists_eq, or_true, true_or, or_false, false_or, CMul, CPow, natAbs_10, natAbs_2, Int.cast_ofNat_Int, Nat.reducePow, exists_and_left, exists_const, and_assoc, true_and, and_true, and_self, false_and, and_false, if_true, if_false, ite_true, ite_false, reduceCtorEq, decide_true, decide_false, decide_eq_true_eq, decide_eq_false_iff_not, Bool.not_true, Bool.not_false, Bool.false_eq_true, List.replicate_zero, List.replicate_succ, List.map_cons, List.map_nil, List.nil_append, List.cons_append, Nat.reduceSub, Nat.reduceAdd, Nat.reduceLeDiff, Nat.reduceLT, Int.reduceLT, Int.reduceLE, Int.reduceAdd, Int.reduceSub, Int.reduceMul, Int.reduceNeg, Int.reduceMod, Int.reduceDiv, Int.reducePow, Int.reduceToNat, okD_int, okD_bl, okD_lst, okD_tup, okD_non, okL_nil, okL_cons, okD_str, okL_int, eqD_int, eqD_bl, eqD_str, eqD_tup, eqD_lst, eqL_cons, eqL_nil, eqL_cn, eqL_nc, eqL_int, Bool.and_eq_true, Bool.or_eq_true, Bool.not_eq_true', Bool.and_false, Bool.false_and, Bool.or_false, Bool.false_or, Bool.or_true, Bool.true_or, Bool.and_true, Bool.true_and, Bool.and_self, this]
  simp only [show -18446744073709551616 < base by omega, show base < 18446744073709551616 by omega, true_and, true_or]
end

section
variable {Q : D → Prop} {E : Er → Prop}
theorem sp_power_rest {b e q : Int} (hb : 0 ≤ b ∧ b < 1000000) (he : 0 ≤ e ∧ e < 1000000) (hq : 0 < q) (h : Q (.int (b ^ e.toNat % q))) : T_power_rest [.int b, .int e, .int q] Q E := by
  unfold T_power_rest wFn B_power_rest
  (try simp only [wSeq, wAsg, wOwn, wF, wLc, wSkip, wBrk, wCnt, wRet, wRetF, wRetN, wDrop, wIfS, wPar, wFor, wWh, wV, wApp, wExt, wSetIx, wAug, wVal, wLook, wC, wOp, wTst, wChain, wAnd, wOr, wNot, wAndV, wOrV, wNotV, wIf, wNil, wCons, wTup, wLst, wCall, wCB, wIsT, wiR1, wiR2, wiSq, wiEn, wiZip, gN, gT1, gT2, gT3, gT4, gT5, gT6, gT7, wYes, gAdd, DV.gSub, gMul, gMod, gDiv, gPow, gLt, gLe, gGt, gGe, gCmp, gEq, gNe, gIs, gIsN, isNon, gIn, gNotIn, gIx, gSlc, wSlc, wNoP, wPart, gLen, gAbs, gInt, gMin2, gMax2, gAll, gAny, gSum, gTuple, wNeg, wRev, itemsOf, D.isTy, D.isHand, Sl.toD, big_0, big_1, big_2, big_3, big_4, big_5, big_6, big_7, big_8, big_9, big_10, big_11, big_12, draw_iff, own_ex, val_ex, wipeE, restE, Sl.keep, Option.getD_some, get_z, get_s, set_z, set_s, List.length_cons, List.length_nil, atI_0, atI_1, atI_2, atI_3, atI_4, ixN_5_0, ixN_5_1, ixN_5_2, ixN_5_3, ixN_5_4, D.bl.injEq, D.int.injEq, D.lst.injEq, D.tup.injEq, D.str.injEq, Sl.own.injEq, Sl.val.injEq, Option.some.injEq, exists_eq_left', exists_eq_left, exists_eq', exists_eq, or_true, true_or, or_false, false_or, CMul, CPow, natAbs_10, natAbs_2, Int.cast_ofNat_Int, Nat.reducePow, exists_and_left, exists_const, and_assoc, true_and, and_true, and_self, false_and, and_false, if_true, if_false, ite_true, ite_false, reduceCtorEq, decide_true, decide_false, decide_eq_true_eq, decide_eq_false_iff_not, Bool.not_true, Bool.not_false, Bool.false_eq_true, List.replicate_zero, List.replicate_succ, List.map_cons, List.map_nil, List.nil_append, List.cons_append, Nat.reduceSub, Nat.reduceAdd, Nat.reduceLeDiff, Nat.reduceLT, Int.reduceLT, Int.reduceLE, Int.reduceAdd, Int.reduceSub, Int.reduceMul, Int.reduceNeg, Int.reduceMod, Int.reduceDiv, Int.reducePow, Int.reduceToNat, okD_int, okD_bl, okD_lst, okD_tup, okD_non, okL_nil, okL_cons, okD_str, okL_int, eqD_int, eqD_bl, eqD_str, eqD_tup, eqD_lst, eqL_cons, eqL_nil, eqL_cn, eqL_nc, eqL_int, Bool.and_eq_true, Bool.or_eq_true, Bool.not_eq_true', Bool.and_false, Bool.false_and, Bool.or_false, Bool.false_or, Bool.or_true, Bool.true_or, Bool.and_true, Bool.true_and, Bool.and_self])
  refine ⟨hq, ?_⟩
  unfold B_power_rest_2
  (try simp only [wSeq, wAsg, wOwn, wF, wLc, wSkip, wBrk, wCnt, wRet, wRetF, wRetN, wDrop, wIfS, wPar, wFor, wWh, wV, wApp, wExt, wSetIx, wAug, wVal, wLook, wC, wOp, wTst, wChain, wAnd, wOr, wNot, wAndV, wOrV, wNotV, wIf, wNil, wCons, wTup, wLst, wCall, wCB, wIsT, wiR1, wiR2, wiSq, wiEn, wiZip, gN, gT1, gT2, gT3, gT4, gT5, gT6, gT7, wYes, gAdd, DV.gSub, gMul, gMod, gDiv, gPow, gLt, gLe, gGt, gGe, gCmp, gEq, gNe, gIs, gIsN, isNon, gIn, gNotIn, gIx, gSlc, wSlc, wNoP, wPart, gLen, gAbs, gInt, gMin2, gMax2, gAll, gAny, gSum, gTuple, wNeg, wRev, itemsOf, D.isTy, D.isHand, Sl.toD, big_0, big_1, big_2, big_3, big_4, big_5, big_6, big_7, big_8, big_9, big_10, big_11, big_12, draw_iff, own_ex, val_ex, wipeE, restE, Sl.keep, Option.getD_some, get_z, get_s, set_z, set_s, List.length_cons, List.length_nil, atI_0, atI_1, atI_2, atI_3, atI_4, ixN_5_0, ixN_5_1, ixN_5_2, ixN_5_3, ixN_5_4, D.bl.injEq, D.int.injEq, D.lst.injEq, D.tup.injEq, D.str.injEq, Sl.own.injEq, Sl.val.injEq, Option.some.injEq, exists_eq_left', exists_eq_left, exists_eq', exists_eq, or_true, true_or, or_false, false_or, CMul, CPow, natAbs_10, natAbs_2, Int.cast_ofNat_Int, Nat.reducePow, exists_and_left, exists_const, and_assoc, true_and, and_true, and_self, false_and, and_false, if_true, if_false, ite_true, ite_false, reduceCtorEq, decide_true, decide_false, decide_eq_true_eq, decide_eq_false_iff_not, Bool.not_true, Bool.not_false, Bool.false_eq_true, List.replicate_zero, List.replicate_succ, List.map_cons, List.map_nil, List.nil_append, List.cons_append, Nat.reduceSub, Nat.reduceAdd, Nat.reduceLeDiff, Nat.reduceLT, Int.reduceLT, Int.reduceLE, Int.reduceAdd, Int.reduceSub, Int.reduceMul, Int.reduceNeg, Int.reduceMod, Int.reduceDiv, Int.reducePow, Int.reduceToNat, okD_int, okD_bl, okD_lst, okD_tup, okD_non, okL_nil, okL_cons, okD_str, okL_int, eqD_int, eqD_bl, eqD_str, eqD_tup, eqD_lst, eqL_cons, eqL_nil, eqL_cn, eqL_nc, eqL_int, Bool.and_eq_true, Bool.or_eq_true, Bool.not_eq_true', Bool.and_false, Bool.false_and, Bool.or_false, Bool.false_or, Bool.or_true, Bool.true_or, Bool.and_true, Bool.true_and, Bool.and_self])
  refine ⟨by omega, by omega, ?_⟩
  refine for_range (fun k env => ∃ s, env = [.val (.int b), .val (.int e), .val (.int q), .val (.int (b ^ k % q)), s]) ⟨_, by rw [Int.pow_zero]⟩ (fun env hI => ?_) (fun k env hk hI nx hn => ?_)
  · obtain ⟨s, rfl⟩ := hI
    unfold B_power_rest_4
    (try simp only [wSeq, wAsg, wOwn, wF, wLc, wSkip, wBrk, wCnt, wRet, wRetF, wRetN, wDrop, wIfS, wPar, wFor, wWh, wV, wApp, wExt, wSetIx, wAug, wVal, wLook, wC, wOp, wTst, wChain, wAnd, wOr, wNot, wAndV, wOrV, wNotV, wIf, wNil, wCons, wTup, wLst, wCall, wCB, wIsT, wiR1, wiR2, wiSq, wiEn, wiZip, gN, gT1, gT2, gT3, gT4, gT5, gT6, gT7, wYes, gAdd, DV.gSub, gMul, gMod, gDiv, gPow, gLt, gLe, gGt, gGe, gCmp, gEq, gNe, gIs, gIsN, isNon, gIn, gNotIn, gIx, gSlc, wSlc, wNoP, wPart, gLen, gAbs, gInt, gMin2, gMax2, gAll, gAny, gSum, gTuple, wNeg, wRev, itemsOf, D.isTy, D.isHand, Sl.toD, big_0, big_1, big_2, big_3, big_4, big_5, big_6, big_7, big_8, big_9, big_10, big_11, big_12, draw_iff, own_ex, val_ex, wipeE, restE, Sl.keep, Option.getD_some, get_z, get_s, set_z, set_s, List.length_cons, List.length_nil, atI_0, atI_1, atI_2, atI_3, atI_4, ixN_5_0, ixN_5_1, ixN_5_2, ixN_5_3, ixN_5_4, D.bl.injEq, D.int.injEq, D.lst.injEq, D.tup.injEq, D.str.injEq, Sl.own.injEq, Sl.val.injEq, Option.some.injEq, exists_eq_left', exists_eq_left, exists_eq', exists_eq, or_true, true_or, or_false, false_or, CMul, CPow, natAbs_10, natAbs_2, Int.cast_ofNat_Int, Nat.reducePow, exists_and_left, exists_const, and_assoc, true_and, and_true, and_self, false_and, and_false, if_true, if_false, ite_true, ite_false, reduceCtorEq, decide_true, decide_false, decide_eq_true_eq, decide_eq_false_iff_not, Bool.not_true, Bool.not_false, Bool.false_eq_true, List.replicate_zero, List.replicate_succ, List.map_cons, List.map_nil, List.nil_append, List.cons_append, Nat.reduceSub, Nat.reduceAdd, Nat.reduceLeDiff, Nat.reduceLT, Int.reduceLT, Int.reduceLE, Int.reduceAdd, Int.reduceSub, Int.reduceMul, Int.reduceNeg, Int.reduceMod, Int.reduceDiv, Int.reducePow, Int.reduceToNat, okD_int, okD_bl, okD_lst, okD_tup, okD_non, okL_nil, okL_cons, okD_str, okL_int, eqD_int, eqD_bl, eqD_str, eqD_tup, eqD_lst, eqL_cons, eqL_nil, eqL_cn, eqL_nc, eqL_int, Bool.and_eq_true, Bool.or_eq_true, Bool.not_eq_true', Bool.and_false, Bool.false_and, Bool.or_false, Bool.false_or, Bool.or_true, Bool.true_or, Bool.and_true, Bool.true_and, Bool.and_self])
    simpa using h
  · obtain ⟨s, rfl⟩ := hI
    (try simp only [wSeq, wAsg, wOwn, wF, wLc, wSkip, wBrk, wCnt, wRet, wRetF, wRetN, wDrop, wIfS, wPar, wFor, wWh, wV, wApp, wExt, wSetIx, wAug, wVal, wLook, wC, wOp, wTst, wChain, wAnd, wOr, wNot, wAndV, wOrV, wNotV, wIf, wNil, wCons, wTup, wLst, wCall, wCB, wIsT, wiR1, wiR2, wiSq, wiEn, wiZip, gN, gT1, gT2, gT3, gT4, gT5, gT6, gT7, wYes, gAdd, DV.gSub, gMul, gMod, gDiv, gPow, gLt, gLe, gGt, gGe, gCmp, gEq, gNe, gIs, gIsN, isNon, gIn, gNotIn, gIx, gSlc, wSlc, wNoP, wPart, gLen, gAbs, gInt, gMin2, gMax2, gAll, gAny, gSum, gTuple, wNeg, wRev, itemsOf, D.isTy, D.isHand, Sl.toD, big_0, big_1, big_2, big_3, big_4, big_5, big_6, big_7, big_8, big_9, big_10, big_11, big_12, draw_iff, own_ex, val_ex, wipeE, restE, Sl.keep, Option.getD_some, get_z, get_s, set_z, set_s, List.length_cons, List.length_nil, atI_0, atI_1, atI_2, atI_3, atI_4, ixN_5_0, ixN_5_1, ixN_5_2, ixN_5_3, ixN_5_4, D.bl.injEq, D.int.injEq, D.lst.injEq, D.tup.injEq, D.str.injEq, Sl.own.injEq, Sl.val.injEq, Option.some.injEq, exists_eq_left', exists_eq_left, exists_eq', exists_eq, or_true, true_or, or_false, false_or, CMul, CPow, natAbs_10, natAbs_2, Int.cast_ofNat_Int, Nat.reducePow, exists_and_left, exists_const, and_assoc, true_and, and_true, and_self, false_and, and_false, if_true, if_false, ite_true, ite_false, reduceCtorEq, decide_true, decide_false, decide_eq_true_eq, decide_eq_false_iff_not, Bool.not_true, Bool.not_false, Bool.false_eq_true, List.replicate_zero, List.replicate_succ, List.map_cons, List.map_nil, List.nil_append, List.cons_append, Nat.reduceSub, Nat.reduceAdd, Nat.reduceLeDiff, Nat.reduceLT, Int.reduceLT, Int.reduceLE, Int.reduceAdd, Int.reduceSub, Int.reduceMul, Int.reduceNeg, Int.reduceMod, Int.reduceDiv, Int.reducePow, Int.reduceToNat, okD_int, okD_bl, okD_lst, okD_tup, okD_non, okL_nil, okL_cons, okD_str, okL_int, eqD_int, eqD_bl, eqD_str, eqD_tup, eqD_lst, eqL_cons, eqL_nil, eqL_cn, eqL_nc, eqL_int, Bool.and_eq_true, Bool.or_eq_true, Bool.not_eq_true', Bool.and_false, Bool.false_and, Bool.or_false, Bool.false_or, Bool.or_true, Bool.true_or, Bool.and_true, Bool.true_and, Bool.and_self])
    refine ⟨.inr ⟨by omega, by omega⟩, hq, hn _ ⟨.val (.int (0 + k)), by rw [emod_mul_l, Int.pow_succ]⟩⟩
end

section
variable {Q : D → Prop} {E : Er → Prop}
theorem sp_law_power {b e : Int} (hb : 0 ≤ b ∧ b < 1000000) (he : 0 ≤ e ∧ e < 1000000) (h : Q (.int (b ^ e.toNat))) : T__law_power [.int b, .int e] Q E := by
  unfold T__law_power wFn B__law_power
  (try simp only [wSeq, wAsg, wOwn, wF, wLc, wSkip, wBrk, wCnt, wRet, wRetF, wRetN, wDrop, wIfS, wPar, wFor, wWh, wV, wApp, wExt, wSetIx, wAug, wVal, wLook, wC, wOp, wTst, wChain, wAnd, wOr, wNot, wAndV, wOrV, wNotV, wIf, wNil, wCons, wTup, wLst, wCall, wCB, wIsT, wiR1, wiR2, wiSq, wiEn, wiZip, gN, gT1, gT2, gT3, gT4, gT5, gT6, gT7, wYes, gAdd, DV.gSub, gMul, gMod, gDiv, gPow, gLt, gLe, gGt, gGe, gCmp, gEq, gNe, gIs, gIsN, isNon, gIn, gNotIn, gIx, gSlc, wSlc, wNoP, wPart, gLen, gAbs, gInt, gMin2, gMax2, gAll, gAny, gSum, gTuple, wNeg, wRev, itemsOf, D.isTy, D.isHand, Sl.toD, big_0, big_1, big_2, big_3, big_4, big_5, big_6, big_7, big_8, big_9, big_10, big_11, big_12, draw_iff, own_ex, val_ex, wipeE, restE, Sl.keep, Option.getD_some, get_z, get_s, set_z, set_s, List.length_cons, List.length_nil, atI_0, atI_1, atI_2, atI_3, atI_4, ixN_5_0, ixN_5_1, ixN_5_2, ixN_5_3, ixN_5_4, D.bl.injEq, D.int.injEq, D.lst.injEq, D.tup.injEq, D.str.injEq, Sl.own.injEq, Sl.val.injEq, Option.some.injEq, exists_eq_left', exists_eq_left, exists_eq', exists_eq, or_true, true_or, or_false, false_or, CMul, CPow, natAbs_10, natAbs_2, Int.cast_ofNat_Int, Nat.reducePow, exists_and_left, exists_const, and_assoc, true_and, and_true, and_self, false_and, and_false, if_true, if_false, ite_true, ite_false, reduceCtorEq, decide_true, decide_false, decide_eq_true_eq, decide_eq_false_iff_not, Bool.not_true, Bool.not_false, Bool.false_eq_true, List.replicate_zero, List.replicate_succ, List.map_cons, List.map_nil, List.nil_append, List.cons_append, Nat.reduceSub, Nat.reduceAdd, Nat.reduceLeDiff, Nat.reduceLT, Int.reduceLT, Int.reduceLE, Int.reduceAdd, Int.reduceSub, Int.reduceMul, Int.reduceNeg, Int.reduceMod, Int.reduceDiv, Int.reducePow, Int.reduceToNat, okD_int, okD_bl, okD_lst, okD_tup, okD_non, okL_nil, okL_cons, okD_str, okL_int, eqD_int, eqD_bl, eqD_str, eqD_tup, eqD_lst, eqL_cons, eqL_nil, eqL_cn, eqL_nc, eqL_int, Bool.and_eq_true, Bool.or_eq_true, Bool.not_eq_true', Bool.and_false, Bool.false_and, Bool.or_false, Bool.false_or, Bool.or_true, Bool.true_or, Bool.and_true, Bool.true_and, Bool.and_self])
  unfold B__law_power_2
  (try simp only [wSeq, wAsg, wOwn, wF, wLc, wSkip, wBrk, wCnt, wRet, wRetF, wRetN, wDrop, wIfS, wPar, wFor, wWh, wV, wApp, wExt, wSetIx, wAug, wVal, wLook, wC, wOp, wTst, wChain, wAnd, wOr, wNot, wAndV, wOrV, wNotV, wIf, wNil, wCons, wTup, wLst, wCall, wCB, wIsT, wiR1, wiR2, wiSq, wiEn, wiZip, gN, gT1, gT2, gT3, gT4, gT5, gT6, gT7, wYes, gAdd, DV.gSub, gMul, gMod, gDiv, gPow, gLt, gLe, gGt, gGe, gCmp, gEq, gNe, gIs, gIsN, isNon, gIn, gNotIn, gIx, gSlc, wSlc, wNoP, wPart, gLen, gAbs, gInt, gMin2, gMax2, gAll, gAny, gSum, gTuple, wNeg, wRev, itemsOf, D.isTy, D.isHand, Sl.toD, big_0, big_1, big_2, big_3, big_4, big_5, big_6, big_7, big_8, big_9, big_10, big_11, big_12, draw_iff, own_ex, val_ex, wipeE, restE, Sl.keep, Option.getD_some, get_z, get_s, set_z, set_s, List.length_cons, List.length_nil, atI_0, atI_1, atI_2, atI_3, atI_4, ixN_5_0, ixN_5_1, ixN_5_2, ixN_5_3, ixN_5_4, D.bl.injEq, D.int.injEq, D.lst.injEq, D.tup.injEq, D.str.injEq, Sl.own.injEq, Sl.val.injEq, Option.some.injEq, exists_eq_left', exists_eq_left, exists_eq', exists_eq, or_true, true_or, or_false, false_or, CMul, CPow, natAbs_10, natAbs_2, Int.cast_ofNat_Int, Nat.reducePow, exists_and_left, exists_const, and_assoc, true_and, and_true, and_self, false_and, and_false, if_true, if_false, ite_true, ite_false, reduceCtorEq, decide_true, decide_false, decide_eq_true_eq, decide_eq_false_iff_not, Bool.not_true, Bool.not_false, Bool.false_eq_true, List.replicate_zero, List.replicate_succ, List.map_cons, List.map_nil, List.nil_append, List.cons_append, Nat.reduceSub, Nat.reduceAdd, Nat.reduceLeDiff, Nat.reduceLT, Int.reduceLT, Int.reduceLE, Int.reduceAdd, Int.reduceSub, Int.reduceMul, Int.reduceNeg, Int.reduceMod, Int.reduceDiv, Int.reducePow, Int.reduceToNat, okD_int, okD_bl, okD_lst, okD_tup, okD_non, okL_nil, okL_cons, okD_str, okL_int, eqD_int, eqD_bl, eqD_str, eqD_tup, eqD_lst, eqL_cons, eqL_nil, eqL_cn, eqL_nc, eqL_int, Bool.and_eq_true, Bool.or_eq_true, Bool.not_eq_true', Bool.and_false, Bool.false_and, Bool.or_false, Bool.false_or, Bool.or_true, Bool.true_or, Bool.and_true, Bool.true_and, Bool.and_self])
  refine ⟨by omega, by omega, ?_⟩
  refine for_range (fun k env => ∃ s, env = [.val (.int b), .val (.int e), .val (.int (b ^ k)), s]) ⟨_, by rw [Int.pow_zero]⟩ (fun env hI => ?_) (fun k env hk hI nx hn => ?_)
  · obtain ⟨s, rfl⟩ := hI
    unfold B__law_power_4
    (try simp only [wSeq, wAsg, wOwn, wF, wLc, wSkip, wBrk, wCnt, wRet, wRetF, wRetN, wDrop, wIfS, wPar, wFor, wWh, wV, wApp, wExt, wSetIx, wAug, wVal, wLook, wC, wOp, wTst, wChain, wAnd, wOr, wNot, wAndV, wOrV, wNotV, wIf, wNil, wCons, wTup, wLst, wCall, wCB, wIsT, wiR1, wiR2, wiSq, wiEn, wiZip, gN, gT1, gT2, gT3, gT4, gT5, gT6, gT7, wYes, gAdd, DV.gSub, gMul, gMod, gDiv, gPow, gLt, gLe, gGt, gGe, gCmp, gEq, gNe, gIs, gIsN, isNon, gIn, gNotIn, gIx, gSlc, wSlc, wNoP, wPart, gLen, gAbs, gInt, gMin2, gMax2, gAll, gAny, gSum, gTuple, wNeg, wRev, itemsOf, D.isTy, D.isHand, Sl.toD, big_0, big_1, big_2, big_3, big_4, big_5, big_6, big_7, big_8, big_9, big_10, big_11, big_12, draw_iff, own_ex, val_ex, wipeE, restE, Sl.keep, Option.getD_some, get_z, get_s, set_z, set_s, List.length_cons, List.length_nil, atI_0, atI_1, atI_2, atI_3, atI_4, ixN_5_0, ixN_5_1, ixN_5_2, ixN_5_3, ixN_5_4, D.bl.injEq, D.int.injEq, D.lst.injEq, D.tup.injEq, D.str.injEq, Sl.own.injEq, Sl.val.injEq, Option.some.injEq, exists_eq_left', exists_eq_left, exists_eq', exists_eq, or_true, true_or, or_false, false_or, CMul, CPow, natAbs_10, natAbs_2, Int.cast_ofNat_Int, Nat.reducePow, exists_and_left, exists_const, and_assoc, true_and, and_true, and_self, false_and, and_false, if_true, if_false, ite_true, ite_false, reduceCtorEq, decide_true, decide_false, decide_eq_true_eq, decide_eq_false_iff_not, Bool.not_true, Bool.not_false, Bool.false_eq_true, List.replicate_zero, List.replicate_succ, List.map_cons, List.map_nil, List.nil_append, List.cons_append, Nat.reduceSub, Nat.reduceAdd, Nat.reduceLeDiff, Nat.reduceLT, Int.reduceLT, Int.reduceLE, Int.reduceAdd, Int.reduceSub, Int.reduceMul, Int.reduceNeg, Int.reduceMod, Int.reduceDiv, Int.reducePow, Int.reduceToNat, okD_int, okD_bl, okD_lst, okD_tup, okD_non, okL_nil, okL_cons, okD_str, okL_int, eqD_int, eqD_bl, eqD_str, eqD_tup, eqD_lst, eqL_cons, eqL_nil, eqL_cn, eqL_nc, eqL_int, Bool.and_eq_true, Bool.or_eq_true, Bool.not_eq_true', Bool.and_false, Bool.false_and, Bool.or_false, Bool.false_or, Bool.or_true, Bool.true_or, Bool.and_true, Bool.true_and, Bool.and_self])
    simpa using h
  · obtain ⟨s, rfl⟩ := hI
    (try simp only [wSeq, wAsg, wOwn, wF, wLc, wSkip, wBrk, wCnt, wRet, wRetF, wRetN, wDrop, wIfS, wPar, wFor, wWh, wV, wApp, wExt, wSetIx, wAug, wVal, wLook, wC, wOp, wTst, wChain, wAnd, wOr, wNot, wAndV, wOrV, wNotV, wIf, wNil, wCons, wTup, wLst, wCall, wCB, wIsT, wiR1, wiR2, wiSq, wiEn, wiZip, gN, gT1, gT2, gT3, gT4, gT5, gT6, gT7, wYes, gAdd, DV.gSub, gMul, gMod, gDiv, gPow, gLt, gLe, gGt, gGe, gCmp, gEq, gNe, gIs, gIsN, isNon, gIn, gNotIn, gIx, gSlc, wSlc, wNoP, wPart, gLen, gAbs, gInt, gMin2, gMax2, gAll, gAny, gSum, gTuple, wNeg, wRev, itemsOf, D.isTy, D.isHand, Sl.toD, big_0, big_1, big_2, big_3, big_4, big_5, big_6, big_7, big_8, big_9, big_10, big_11, big_12, draw_iff, own_ex, val_ex, wipeE, restE, Sl.keep, Option.getD_some, get_z, get_s, set_z, set_s, List.length_cons, List.length_nil, atI_0, atI_1, atI_2, atI_3, atI_4, ixN_5_0, ixN_5_1, ixN_5_2, ixN_5_3, ixN_5_4, D.bl.injEq, D.int.injEq, D.lst.injEq, D.tup.injEq, D.str.injEq, Sl.own.injEq, Sl.val.injEq, Option.some.injEq, exists_eq_left', exists_eq_left, exists_eq', exists_eq, or_true, true_or, or_false, false_or, CMul, CPow, natAbs_10, natAbs_2, Int.cast_ofNat_Int, Nat.reducePow, exists_and_left, exists_const, and_assoc, true_and, and_true, and_self, false_and, and_false, if_true, if_false, ite_true, ite_false, reduceCtorEq, decide_true, decide_false, decide_eq_true_eq, decide_eq_false_iff_not, Bool.not_true, Bool.not_false, Bool.false_eq_true, List.replicate_zero, List.replicate_succ, List.map_cons, List.map_nil, List.nil_append, List.cons_append, Nat.reduceSub, Nat.reduceAdd, Nat.reduceLeDiff, Nat.reduceLT, Int.reduceLT, Int.reduceLE, Int.reduceAdd, Int.reduceSub, Int.reduceMul, Int.reduceNeg, Int.reduceMod, Int.reduceDiv, Int.reducePow, Int.reduceToNat, okD_int, okD_bl, okD_lst, okD_tup, okD_non, okL_nil, okL_cons, okD_str, okL_int, eqD_int, eqD_bl, eqD_str, eqD_tup, eqD_lst, eqL_cons, eqL_nil, eqL_cn, eqL_nc, eqL_int, Bool.and_eq_true, Bool.or_eq_true, Bool.not_eq_true', Bool.and_false, Bool.false_and, Bool.or_false, Bool.false_or, Bool.or_true, Bool.true_or, Bool.and_true, Bool.true_and, Bool.and_self])
    refine ⟨.inr ⟨by omega, by omega⟩, hn _ ⟨.val (.int (0 + k)), by rw [Int.pow_succ]⟩⟩
end

/-- the number that a word means -/
def num (b : Int) : Int → List Int → Int
  | z, [] => z
  | z, x :: r => num b (z * b + x) r

section
variable {Q : D → Prop} {E : Er → Prop}
theorem sp_law_number {b : Int} {ws : List Int} (hb : 0 ≤ b ∧ b < 1000000) (h : Q (.int (num b 0 ws))) : T__law_number [.int b, .lst (ws.map D.int)] Q E := by
  unfold T__law_number wFn B__law_number
  (try simp only [wSeq, wAsg, wOwn, wF, wLc, wSkip, wBrk, wCnt, wRet, wRetF, wRetN, wDrop, wIfS, wPar, wFor, wWh, wV, wApp, wExt, wSetIx, wAug, wVal, wLook, wC, wOp, wTst, wChain, wAnd, wOr, wNot, wAndV, wOrV, wNotV, wIf, wNil, wCons, wTup, wLst, wCall, wCB, wIsT, wiR1, wiR2, wiSq, wiEn, wiZip, gN, gT1, gT2, gT3, gT4, gT5, gT6, gT7, wYes, gAdd, DV.gSub, gMul, gMod, gDiv, gPow, gLt, gLe, gGt, gGe, gCmp, gEq, gNe, gIs, gIsN, isNon, gIn, gNotIn, gIx, gSlc, wSlc, wNoP, wPart, gLen, gAbs, gInt, gMin2, gMax2, gAll, gAny, gSum, gTuple, wNeg, wRev, itemsOf, D.isTy, D.isHand, Sl.toD, big_0, big_1, big_2, big_3, big_4, big_5, big_6, big_7, big_8, big_9, big_10, big_11, big_12, draw_iff, own_ex, val_ex, wipeE, restE, Sl.keep, Option.getD_some, get_z, get_s, set_z, set_s, List.length_cons, List.length_nil, atI_0, atI_1, atI_2, atI_3, atI_4, ixN_5_0, ixN_5_1, ixN_5_2, ixN_5_3, ixN_5_4, D.bl.injEq, D.int.injEq, D.lst.injEq, D.tup.injEq, D.str.injEq, Sl.own.injEq, Sl.val.injEq, Option.some.injEq, exists_eq_left', exists_eq_left, exists_eq', exists_eq, or_true, true_or, or_false, false_or, CMul, CPow, natAbs_10, natAbs_2, Int.cast_ofNat_Int, Nat.reducePow, exists_and_left, exists_const, and_assoc, true_and, and_true, and_self, false_and, and_false, if_true, if_false, ite_true, ite_false, reduceCtorEq, decide_true, decide_false, decide_eq_true_eq, decide_eq_false_iff_not, Bool.not_true, Bool.not_false, Bool.false_eq_true, List.replicate_zero, List.replicate_succ, List.map_cons, List.map_nil, List.nil_append, List.cons_append, Nat.reduceSub, Nat.reduceAdd, Nat.reduceLeDiff, Nat.reduceLT, Int.reduceLT, Int.reduceLE, Int.reduceAdd, Int.reduceSub, Int.reduceMul, Int.reduceNeg, Int.reduceMod, Int.reduceDiv, Int.reducePow, Int.reduceToNat, okD_int, okD_bl, okD_lst, okD_tup, okD_non, okL_nil, okL_cons, okD_str, okL_int, eqD_int, eqD_bl, eqD_str, eqD_tup, eqD_lst, eqL_cons, eqL_nil, eqL_cn, eqL_nc, eqL_int, Bool.and_eq_true, Bool.or_eq_true, Bool.not_eq_true', Bool.and_false, Bool.false_and, Bool.or_false, Bool.false_or, Bool.or_true, Bool.true_or, Bool.and_true, Bool.true_and, Bool.and_self])
  unfold B__law_number_2
  (try simp only [wSeq, wAsg, wOwn, wF, wLc, wSkip, wBrk, wCnt, wRet, wRetF, wRetN, wDrop, wIfS, wPar, wFor, wWh, wV, wApp, wExt, wSetIx, wAug, wVal, wLook, wC, wOp, wTst, wChain, wAnd, wOr, wNot, wAndV, wOrV, wNotV, wIf, wNil, wCons, wTup, wLst, wCall, wCB, wIsT, wiR1, wiR2, wiSq, wiEn, wiZip, gN, gT1, gT2, gT3, gT4, gT5, gT6, gT7, wYes, gAdd, DV.gSub, gMul, gMod, gDiv, gPow, gLt, gLe, gGt, gGe, gCmp, gEq, gNe, gIs, gIsN, isNon, gIn, gNotIn, gIx, gSlc, wSlc, wNoP, wPart, gLen, gAbs, gInt, gMin2, gMax2, gAll, gAny, gSum, gTuple, wNeg, wRev, itemsOf, D.isTy, D.isHand, Sl.toD, big_0, big_1, big_2, big_3, big_4, big_5, big_6, big_7, big_8, big_9, big_10, big_11, big_12, draw_iff, own_ex, val_ex, wipeE, restE, Sl.keep, Option.getD_some, get_z, get_s, set_z, set_s, List.length_cons, List.length_nil, atI_0, atI_1, atI_2, atI_3, atI_4, ixN_5_0, ixN_5_1, ixN_5_2, ixN_5_3, ixN_5_4, D.bl.injEq, D.int.injEq, D.lst.injEq, D.tup.injEq, D.str.injEq, Sl.own.injEq, Sl.val.injEq, Option.some.injEq, exists_eq_left', exists_eq_left, exists_eq', exists_eq, or_true, true_or, or_false, false_or, CMul, CPow, natAbs_10, natAbs_2, Int.cast_ofNat_Int, Nat.reducePow, exists_and_left, exists_const, and_assoc, true_and, and_true, and_self, false_and, and_false, if_true, if_false, ite_true, ite_false, reduceCtorEq, decide_true, decide_false, decide_eq_true_eq, decide_eq_false_iff_not, Bool.not_true, Bool.not_false, Bool.false_eq_true, List.replicate_zero, List.replicate_succ, List.map_cons, List.map_nil, List.nil_append, List.cons_append, Nat.reduceSub, Nat.reduceAdd, Nat.reduceLeDiff, Nat.reduceLT, Int.reduceLT, Int.reduceLE, Int.reduceAdd, Int.reduceSub, Int.reduceMul, Int.reduceNeg, Int.reduceMod, Int.reduceDiv, Int.reducePow, Int.reduceToNat, okD_int, okD_bl, okD_lst, okD_tup, okD_non, okL_nil, okL_cons, okD_str, okL_int, eqD_int, eqD_bl, eqD_str, eqD_tup, eqD_lst, eqL_cons, eqL_nil, eqL_cn, eqL_nc, eqL_int, Bool.and_eq_true, Bool.or_eq_true, Bool.not_eq_true', Bool.and_false, Bool.false_and, Bool.or_false, Bool.false_or, Bool.or_true, Bool.true_or, Bool.and_true, Bool.true_and, Bool.and_self])
  refine for_ind (fun r env => ∃ vs z s, r = vs.map D.int ∧ num b z vs = num b 0 ws ∧ env = [.val (.int b), .val (.lst (ws.map D.int)), .val (.int z), s]) (fun env hI => ?_) (fun x r env hI nx hn => ?_) ⟨ws, 0, _, rfl, rfl, rfl⟩
  · obtain ⟨vs, z, s, e, e2, rfl⟩ := hI
    unfold B__law_number_4
    (try simp only [wSeq, wAsg, wOwn, wF, wLc, wSkip, wBrk, wCnt, wRet, wRetF, wRetN, wDrop, wIfS, wPar, wFor, wWh, wV, wApp, wExt, wSetIx, wAug, wVal, wLook, wC, wOp, wTst, wChain, wAnd, wOr, wNot, wAndV, wOrV, wNotV, wIf, wNil, wCons, wTup, wLst, wCall, wCB, wIsT, wiR1, wiR2, wiSq, wiEn, wiZip, gN, gT1, gT2, gT3, gT4, gT5, gT6, gT7, wYes, gAdd, DV.gSub, gMul, gMod, gDiv, gPow, gLt, gLe, gGt, gGe, gCmp, gEq, gNe, gIs, gIsN, isNon, gIn, gNotIn, gIx, gSlc, wSlc, wNoP, wPart, gLen, gAbs, gInt, gMin2, gMax2, gAll, gAny, gSum, gTuple, wNeg, wRev, itemsOf, D.isTy, D.isHand, Sl.toD, big_0, big_1, big_2, big_3, big_4, big_5, big_6, big_7, big_8, big_9, big_10, big_11, big_12, draw_iff, own_ex, val_ex, wipeE, restE, Sl.keep, Option.getD_some, get_z, get_s, set_z, set_s, List.length_cons, List.length_nil, atI_0, atI_1, atI_2, atI_3, atI_4, ixN_5_0, ixN_5_1, ixN_5_2, ixN_5_3, ixN_5_4, D.bl.injEq, D.int.injEq, D.lst.injEq, D.tup.injEq, D.str.injEq, Sl.own.injEq, Sl.val.injEq, Option.some.injEq, exists_eq_left', exists_eq_left, exists_eq', exists_eq, or_true, true_or, or_false, false_or, CMul, CPow, natAbs_10, natAbs_2, Int.cast_ofNat_Int, Nat.reducePow, exists_and_left, exists_const, and_assoc, true_and, and_true, and_self, false_and, and_false, if_true, if_false, ite_true, ite_false, reduceCtorEq, decide_true, decide_false, decide_eq_true_eq, decide_eq_false_iff_not, Bool.not_true, Bool.not_false, Bool.false_eq_true, List.replicate_zero, List.replicate_succ, List.map_cons, List.map_nil, List.nil_append, List.cons_append, Nat.reduceSub, Nat.reduceAdd, Nat.reduceLeDiff, Nat.reduceLT, Int.reduceLT, Int.reduceLE, Int.reduceAdd, Int.reduceSub, Int.reduceMul, Int.reduceNeg, Int.reduceMod, Int.reduceDiv, Int.reducePow, Int.reduceToNat, okD_int, okD_bl, okD_lst, okD_tup, okD_non, okL_nil, okL_cons, okD_str, okL_int, eqD_int, eqD_bl, eqD_str, eqD_tup, eqD_lst, eqL_cons, eqL_nil, eqL_cn, eqL_nc, eqL_int, Bool.and_eq_true, Bool.or_eq_true, Bool.not_eq_true', Bool.and_false, Bool.false_and, Bool.or_false, Bool.false_or, Bool.or_true, Bool.true_or, Bool.and_true, Bool.true_and, Bool.and_self])
    cases vs with
    | nil => rw [num] at e2; rw [e2]; exact h
    | cons _ _ => cases e
  · obtain ⟨vs, z, s, e, e2, rfl⟩ := hI
    cases vs with
    | nil => cases e
    | cons v vs =>
      cases e
      (try simp only [wSeq, wAsg, wOwn, wF, wLc, wSkip, wBrk, wCnt, wRet, wRetF, wRetN, wDrop, wIfS, wPar, wFor, wWh, wV, wApp, wExt, wSetIx, wAug, wVal, wLook, wC, wOp, wTst, wChain, wAnd, wOr, wNot, wAndV, wOrV, wNotV, wIf, wNil, wCons, wTup, wLst, wCall, wCB, wIsT, wiR1, wiR2, wiSq, wiEn, wiZip, gN, gT1, gT2, gT3, gT4, gT5, gT6, gT7, wYes, gAdd, DV.gSub, gMul, gMod, gDiv, gPow, gLt, gLe, gGt, gGe, gCmp, gEq, gNe, gIs, gIsN, isNon, gIn, gNotIn, gIx, gSlc, wSlc, wNoP, wPart, gLen, gAbs, gInt, gMin2, gMax2, gAll, gAny, gSum, gTuple, wNeg, wRev, itemsOf, D.isTy, D.isHand, Sl.toD, big_0, big_1, big_2, big_3, big_4, big_5, big_6, big_7, big_8, big_9, big_10, big_11, big_12, draw_iff, own_ex, val_ex, wipeE, restE, Sl.keep, Option.getD_some, get_z, get_s, set_z, set_s, List.length_cons, List.length_nil, atI_0, atI_1, atI_2, atI_3, atI_4, ixN_5_0, ixN_5_1, ixN_5_2, ixN_5_3, ixN_5_4, D.bl.injEq, D.int.injEq, D.lst.injEq, D.tup.injEq, D.str.injEq, Sl.own.injEq, Sl.val.injEq, Option.some.injEq, exists_eq_left', exists_eq_left, exists_eq', exists_eq, or_true, true_or, or_false, false_or, CMul, CPow, natAbs_10, natAbs_2, Int.cast_ofNat_Int, Nat.reducePow, exists_and_left, exists_const, and_assoc, true_and, and_true, and_self, false_and, and_false, if_true, if_false, ite_true, ite_false, reduceCtorEq, decide_true, decide_false, decide_eq_true_eq, decide_eq_false_iff_not, Bool.not_true, Bool.not_false, Bool.false_eq_true, List.replicate_zero, List.replicate_succ, List.map_cons, List.map_nil, List.nil_append, List.cons_append, Nat.reduceSub, Nat.reduceAdd, Nat.reduceLeDiff, Nat.reduceLT, Int.reduceLT, Int.reduceLE, Int.reduceAdd, Int.reduceSub, Int.reduceMul, Int.reduceNeg, Int.reduceMod, Int.reduceDiv, Int.reducePow, Int.reduceToNat, okD_int, okD_bl, okD_lst, okD_tup, okD_non, okL_nil, okL_cons, okD_str, okL_int, eqD_int, eqD_bl, eqD_str, eqD_tup, eqD_lst, eqL_cons, eqL_nil, eqL_cn, eqL_nc, eqL_int, Bool.and_eq_true, Bool.or_eq_true, Bool.not_eq_true', Bool.and_false, Bool.false_and, Bool.or_false, Bool.false_or, Bool.or_true, Bool.true_or, Bool.and_true, Bool.true_and, Bool.and_self])
      exact ⟨.inr ⟨by omega, by omega⟩, hn _ ⟨vs, _, _, rfl, by rw [num] at e2; exact e2, rfl⟩⟩
end

section
variable {Q : D → Prop} {E : Er → Prop}
/-- data that _law_is finds alike -/
def isOk : Nat → D → Prop
  | 0, _ => False
  | _ + 1, .non => True
  | _ + 1, .bl _ => True
  | _ + 1, .int _ => True
  | _ + 1, .str s => okD (.str s) 60 = true
  | n + 1, .tup xs => xs.length ≤ big ∧ ∀ x ∈ xs, isOk n x
  | n + 1, .lst xs => xs.length ≤ big ∧ ∀ x ∈ xs, isOk n x
  | _ + 1, .dct _ => False
  | _ + 1, .obj _ _ => False
  | _ + 1, .frz _ => False
  | _ + 1, .hand => False
theorem zipD_self : ∀ xs : List D, zipD xs xs = xs.map fun x => .tup [x, x]
  | [] => rfl
  | x :: xs => by rw [zipD, List.map_cons, zipD_self xs]
theorem sp_law_is : ∀ {n : Nat} {x : D} {Q : D → Prop} {E : Er → Prop}, isOk n x → Q (.bl true) → T__law_is n [x, x] Q E
  | 0, _, _, _, h, _ => h.elim
  | n + 1, x, Q, E, h, q => by
    have seq : ∀ xs : List D, (∀ y ∈ xs, isOk n y) → ∀ K : List D → DV.Env → Prop, K (xs.map fun _ => .bl true) [.val x, .val x, .no, .no] →
        lcGo (DV.gTup 2 (DV.gCons (gN 2) (DV.gCons (gN 3) DV.gNil))) wYes (wCall 2 (T__law_is n) (wCons (wVal 2) (wCons (wVal 3) wNil))) [2, 3] (zipD xs xs) [] [.val x, .val x, .no, .no] K := by
      intro xs hx K hk
      rw [zipD_self]
      refine lc_map (fun _ => .bl true) (fun y hy K' hk' => ?_) (by rw [List.nil_append, List.map_map]; exact hk)
      obtain ⟨z, hz, rfl⟩ := List.mem_map.mp hy
      (try simp only [wSeq, wAsg, wOwn, wF, wLc, wSkip, wBrk, wCnt, wRet, wRetF, wRetN, wDrop, wIfS, wPar, wFor, wWh, wV, wApp, wExt, wSetIx, wAug, wVal, wLook, wC, wOp, wTst, wChain, wAnd, wOr, wNot, wAndV, wOrV, wNotV, wIf, wNil, wCons, wTup, wLst, wCall, wCB, wIsT, wiR1, wiR2, wiSq, wiEn, wiZip, gN, gT1, gT2, gT3, gT4, gT5, gT6, gT7, wYes, gAdd, DV.gSub, gMul, gMod, gDiv, gPow, gLt, gLe, gGt, gGe, gCmp, gEq, gNe, gIs, gIsN, isNon, gIn, gNotIn, gIx, gSlc, wSlc, wNoP, wPart, gLen, gAbs, gInt, gMin2, gMax2, gAll, gAny, gSum, gTuple, wNeg, wRev, itemsOf, D.isTy, D.isHand, Sl.toD, big_0, big_1, big_2, big_3, big_4, big_5, big_6, big_7, big_8, big_9, big_10, big_11, big_12, draw_iff, own_ex, val_ex, wipeE, restE, Sl.keep, Option.getD_some, get_z, get_s, set_z, set_s, List.length_cons, List.length_nil, atI_0, atI_1, atI_2, atI_3, atI_4, ixN_5_0, ixN_5_1, ixN_5_2, ixN_5_3, ixN_5_4, D.bl.injEq, D.int.injEq, D.lst.injEq, D.tup.injEq, D.str.injEq, Sl.own.injEq, Sl.val.injEq, Option.some.injEq, exists_eq_left', exists_eq_left, exists_eq', exists_eq, or_true, true_or, or_false, false_or, CMul, CPow, natAbs_10, natAbs_2, Int.cast_ofNat_Int, Nat.reducePow, exists_and_left, exists_const, and_assoc, true_and, and_true, and_self, false_and, and_false, if_true, if_false, ite_true, ite_false, reduceCtorEq, decide_true, decide_false, decide_eq_true_eq, decide_eq_false_iff_not, Bool.not_true, Bool.not_false, Bool.false_eq_true, List.replicate_zero, List.replicate_succ, List.map_cons, List.map_nil, List.nil_append, List.cons_append, Nat.reduceSub, Nat.reduceAdd, Nat.reduceLeDiff, Nat.reduceLT, Int.reduceLT, Int.reduceLE, Int.reduceAdd, Int.reduceSub, Int.reduceMul, Int.reduceNeg, Int.reduceMod, Int.reduceDiv, Int.reducePow, Int.reduceToNat, okD_int, okD_bl, okD_lst, okD_tup, okD_non, okL_nil, okL_cons, okD_str, okL_int, eqD_int, eqD_bl, eqD_str, eqD_tup, eqD_lst, eqL_cons, eqL_nil, eqL_cn, eqL_nc, eqL_int, Bool.and_eq_true, Bool.or_eq_true, Bool.not_eq_true', Bool.and_false, Bool.false_and, Bool.or_false, Bool.false_or, Bool.or_true, Bool.true_or, Bool.and_true, Bool.true_and, Bool.and_self])
      exact sp_law_is (hx z hz) hk'
    have tb : ∀ xs : List D, toBs (xs.map fun _ => .bl true) = some (xs.map fun _ => true) := fun xs => by
      rw [← toBs_map, List.map_map]; rfl
    have al : ∀ xs : List D, (xs.map fun _ => true).all id = true := fun xs => by simp
    unfold T__law_is wFn B__law_is
    cases x with
    | non =>
      (try simp only [wSeq, wAsg, wOwn, wF, wLc, wSkip, wBrk, wCnt, wRet, wRetF, wRetN, wDrop, wIfS, wPar, wFor, wWh, wV, wApp, wExt, wSetIx, wAug, wVal, wLook, wC, wOp, wTst, wChain, wAnd, wOr, wNot, wAndV, wOrV, wNotV, wIf, wNil, wCons, wTup, wLst, wCall, wCB, wIsT, wiR1, wiR2, wiSq, wiEn, wiZip, gN, gT1, gT2, gT3, gT4, gT5, gT6, gT7, wYes, gAdd, DV.gSub, gMul, gMod, gDiv, gPow, gLt, gLe, gGt, gGe, gCmp, gEq, gNe, gIs, gIsN, isNon, gIn, gNotIn, gIx, gSlc, wSlc, wNoP, wPart, gLen, gAbs, gInt, gMin2, gMax2, gAll, gAny, gSum, gTuple, wNeg, wRev, itemsOf, D.isTy, D.isHand, Sl.toD, big_0, big_1, big_2, big_3, big_4, big_5, big_6, big_7, big_8, big_9, big_10, big_11, big_12, draw_iff, own_ex, val_ex, wipeE, restE, Sl.keep, Option.getD_some, get_z, get_s, set_z, set_s, List.length_cons, List.length_nil, atI_0, atI_1, atI_2, atI_3, atI_4, ixN_5_0, ixN_5_1, ixN_5_2, ixN_5_3, ixN_5_4, D.bl.injEq, D.int.injEq, D.lst.injEq, D.tup.injEq, D.str.injEq, Sl.own.injEq, Sl.val.injEq, Option.some.injEq, exists_eq_left', exists_eq_left, exists_eq', exists_eq, or_true, true_or, or_false, false_or, CMul, CPow, natAbs_10, natAbs_2, Int.cast_ofNat_Int, Nat.reducePow, exists_and_left, exists_const, and_assoc, true_and, and_true, and_self, false_and, and_false, if_true, if_false, ite_true, ite_false, reduceCtorEq, decide_true, decide_false, decide_eq_true_eq, decide_eq_false_iff_not, Bool.not_true, Bool.not_false, Bool.false_eq_true, List.replicate_zero, List.replicate_succ, List.map_cons, List.map_nil, List.nil_append, List.cons_append, Nat.reduceSub, Nat.reduceAdd, Nat.reduceLeDiff, Nat.reduceLT, Int.reduceLT, Int.reduceLE, Int.reduceAdd, Int.reduceSub, Int.reduceMul, Int.reduceNeg, Int.reduceMod, Int.reduceDiv, Int.reducePow, Int.reduceToNat, okD_int, okD_bl, okD_lst, okD_tup, okD_non, okL_nil, okL_cons, okD_str, okL_int, eqD_int, eqD_bl, eqD_str, eqD_tup, eqD_lst, eqL_cons, eqL_nil, eqL_cn, eqL_nc, eqL_int, Bool.and_eq_true, Bool.or_eq_true, Bool.not_eq_true', Bool.and_false, Bool.false_and, Bool.or_false, Bool.false_or, Bool.or_true, Bool.true_or, Bool.and_true, Bool.true_and, Bool.and_self])
      unfold B__law_is_5
      (try simp only [wSeq, wAsg, wOwn, wF, wLc, wSkip, wBrk, wCnt, wRet, wRetF, wRetN, wDrop, wIfS, wPar, wFor, wWh, wV, wApp, wExt, wSetIx, wAug, wVal, wLook, wC, wOp, wTst, wChain, wAnd, wOr, wNot, wAndV, wOrV, wNotV, wIf, wNil, wCons, wTup, wLst, wCall, wCB, wIsT, wiR1, wiR2, wiSq, wiEn, wiZip, gN, gT1, gT2, gT3, gT4, gT5, gT6, gT7, wYes, gAdd, DV.gSub, gMul, gMod, gDiv, gPow, gLt, gLe, gGt, gGe, gCmp, gEq, gNe, gIs, gIsN, isNon, gIn, gNotIn, gIx, gSlc, wSlc, wNoP, wPart, gLen, gAbs, gInt, gMin2, gMax2, gAll, gAny, gSum, gTuple, wNeg, wRev, itemsOf, D.isTy, D.isHand, Sl.toD, big_0, big_1, big_2, big_3, big_4, big_5, big_6, big_7, big_8, big_9, big_10, big_11, big_12, draw_iff, own_ex, val_ex, wipeE, restE, Sl.keep, Option.getD_some, get_z, get_s, set_z, set_s, List.length_cons, List.length_nil, atI_0, atI_1, atI_2, atI_3, atI_4, ixN_5_0, ixN_5_1, ixN_5_2, ixN_5_3, ixN_5_4, D.bl.injEq, D.int.injEq, D.lst.injEq, D.tup.injEq, D.str.injEq, Sl.own.injEq, Sl.val.injEq, Option.some.injEq, exists_eq_left', exists_eq_left, exists_eq', exists_eq, or_true, true_or, or_false, false_or, CMul, CPow, natAbs_10, natAbs_2, Int.cast_ofNat_Int, Nat.reducePow, exists_and_left, exists_const, and_assoc, true_and, and_true, and_self, false_and, and_false, if_true, if_false, ite_true, ite_false, reduceCtorEq, decide_true, decide_false, decide_eq_true_eq, decide_eq_false_iff_not, Bool.not_true, Bool.not_false, Bool.false_eq_true, List.replicate_zero, List.replicate_succ, List.map_cons, List.map_nil, List.nil_append, List.cons_append, Nat.reduceSub, Nat.reduceAdd, Nat.reduceLeDiff, Nat.reduceLT, Int.reduceLT, Int.reduceLE, Int.reduceAdd, Int.reduceSub, Int.reduceMul, Int.reduceNeg, Int.reduceMod, Int.reduceDiv, Int.reducePow, Int.reduceToNat, okD_int, okD_bl, okD_lst, okD_tup, okD_non, okL_nil, okL_cons, okD_str, okL_int, eqD_int, eqD_bl, eqD_str, eqD_tup, eqD_lst, eqL_cons, eqL_nil, eqL_cn, eqL_nc, eqL_int, Bool.and_eq_true, Bool.or_eq_true, Bool.not_eq_true', Bool.and_false, Bool.false_and, Bool.or_false, Bool.false_or, Bool.or_true, Bool.true_or, Bool.and_true, Bool.true_and, Bool.and_self])
      unfold B__law_is_7
      (try simp only [wSeq, wAsg, wOwn, wF, wLc, wSkip, wBrk, wCnt, wRet, wRetF, wRetN, wDrop, wIfS, wPar, wFor, wWh, wV, wApp, wExt, wSetIx, wAug, wVal, wLook, wC, wOp, wTst, wChain, wAnd, wOr, wNot, wAndV, wOrV, wNotV, wIf, wNil, wCons, wTup, wLst, wCall, wCB, wIsT, wiR1, wiR2, wiSq, wiEn, wiZip, gN, gT1, gT2, gT3, gT4, gT5, gT6, gT7, wYes, gAdd, DV.gSub, gMul, gMod, gDiv, gPow, gLt, gLe, gGt, gGe, gCmp, gEq, gNe, gIs, gIsN, isNon, gIn, gNotIn, gIx, gSlc, wSlc, wNoP, wPart, gLen, gAbs, gInt, gMin2, gMax2, gAll, gAny, gSum, gTuple, wNeg, wRev, itemsOf, D.isTy, D.isHand, Sl.toD, big_0, big_1, big_2, big_3, big_4, big_5, big_6, big_7, big_8, big_9, big_10, big_11, big_12, draw_iff, own_ex, val_ex, wipeE, restE, Sl.keep, Option.getD_some, get_z, get_s, set_z, set_s, List.length_cons, List.length_nil, atI_0, atI_1, atI_2, atI_3, atI_4, ixN_5_0, ixN_5_1, ixN_5_2, ixN_5_3, ixN_5_4, D.bl.injEq, D.int.injEq, D.lst.injEq, D.tup.injEq, D.str.injEq, Sl.own.injEq, Sl.val.injEq, Option.some.injEq, exists_eq_left', exists_eq_left, exists_eq', exists_eq, or_true, true_or, or_false, false_or, CMul, CPow, natAbs_10, natAbs_2, Int.cast_ofNat_Int, Nat.reducePow, exists_and_left, exists_const, and_assoc, true_and, and_true, and_self, false_and, and_false, if_true, if_false, ite_true, ite_false, reduceCtorEq, decide_true, decide_false, decide_eq_true_eq, decide_eq_false_iff_not, Bool.not_true, Bool.not_false, Bool.false_eq_true, List.replicate_zero, List.replicate_succ, List.map_cons, List.map_nil, List.nil_append, List.cons_append, Nat.reduceSub, Nat.reduceAdd, Nat.reduceLeDiff, Nat.reduceLT, Int.reduceLT, Int.reduceLE, Int.reduceAdd, Int.reduceSub, Int.reduceMul, Int.reduceNeg, Int.reduceMod, Int.reduceDiv, Int.reducePow, Int.reduceToNat, okD_int, okD_bl, okD_lst, okD_tup, okD_non, okL_nil, okL_cons, okD_str, okL_int, eqD_int, eqD_bl, eqD_str, eqD_tup, eqD_lst, eqL_cons, eqL_nil, eqL_cn, eqL_nc, eqL_int, Bool.and_eq_true, Bool.or_eq_true, Bool.not_eq_true', Bool.and_false, Bool.false_and, Bool.or_false, Bool.false_or, Bool.or_true, Bool.true_or, Bool.and_true, Bool.true_and, Bool.and_self])
      exact q
    | bl b =>
      (try simp only [wSeq, wAsg, wOwn, wF, wLc, wSkip, wBrk, wCnt, wRet, wRetF, wRetN, wDrop, wIfS, wPar, wFor, wWh, wV, wApp, wExt, wSetIx, wAug, wVal, wLook, wC, wOp, wTst, wChain, wAnd, wOr, wNot, wAndV, wOrV, wNotV, wIf, wNil, wCons, wTup, wLst, wCall, wCB, wIsT, wiR1, wiR2, wiSq, wiEn, wiZip, gN, gT1, gT2, gT3, gT4, gT5, gT6, gT7, wYes, gAdd, DV.gSub, gMul, gMod, gDiv, gPow, gLt, gLe, gGt, gGe, gCmp, gEq, gNe, gIs, gIsN, isNon, gIn, gNotIn, gIx, gSlc, wSlc, wNoP, wPart, gLen, gAbs, gInt, gMin2, gMax2, gAll, gAny, gSum, gTuple, wNeg, wRev, itemsOf, D.isTy, D.isHand, Sl.toD, big_0, big_1, big_2, big_3, big_4, big_5, big_6, big_7, big_8, big_9, big_10, big_11, big_12, draw_iff, own_ex, val_ex, wipeE, restE, Sl.keep, Option.getD_some, get_z, get_s, set_z, set_s, List.length_cons, List.length_nil, atI_0, atI_1, atI_2, atI_3, atI_4, ixN_5_0, ixN_5_1, ixN_5_2, ixN_5_3, ixN_5_4, D.bl.injEq, D.int.injEq, D.lst.injEq, D.tup.injEq, D.str.injEq, Sl.own.injEq, Sl.val.injEq, Option.some.injEq, exists_eq_left', exists_eq_left, exists_eq', exists_eq, or_true, true_or, or_false, false_or, CMul, CPow, natAbs_10, natAbs_2, Int.cast_ofNat_Int, Nat.reducePow, exists_and_left, exists_const, and_assoc, true_and, and_true, and_self, false_and, and_false, if_true, if_false, ite_true, ite_false, reduceCtorEq, decide_true, decide_false, decide_eq_true_eq, decide_eq_false_iff_not, Bool.not_true, Bool.not_false, Bool.false_eq_true, List.replicate_zero, List.replicate_succ, List.map_cons, List.map_nil, List.nil_append, List.cons_append, Nat.reduceSub, Nat.reduceAdd, Nat.reduceLeDiff, Nat.reduceLT, Int.reduceLT, Int.reduceLE, Int.reduceAdd, Int.reduceSub, Int.reduceMul, Int.reduceNeg, Int.reduceMod, Int.reduceDiv, Int.reducePow, Int.reduceToNat, okD_int, okD_bl, okD_lst, okD_tup, okD_non, okL_nil, okL_cons, okD_str, okL_int, eqD_int, eqD_bl, eqD_str, eqD_tup, eqD_lst, eqL_cons, eqL_nil, eqL_cn, eqL_nc, eqL_int, Bool.and_eq_true, Bool.or_eq_true, Bool.not_eq_true', Bool.and_false, Bool.false_and, Bool.or_false, Bool.false_or, Bool.or_true, Bool.true_or, Bool.and_true, Bool.true_and, Bool.and_self])
      unfold B__law_is_5
      (try simp only [wSeq, wAsg, wOwn, wF, wLc, wSkip, wBrk, wCnt, wRet, wRetF, wRetN, wDrop, wIfS, wPar, wFor, wWh, wV, wApp, wExt, wSetIx, wAug, wVal, wLook, wC, wOp, wTst, wChain, wAnd, wOr, wNot, wAndV, wOrV, wNotV, wIf, wNil, wCons, wTup, wLst, wCall, wCB, wIsT, wiR1, wiR2, wiSq, wiEn, wiZip, gN, gT1, gT2, gT3, gT4, gT5, gT6, gT7, wYes, gAdd, DV.gSub, gMul, gMod, gDiv, gPow, gLt, gLe, gGt, gGe, gCmp, gEq, gNe, gIs, gIsN, isNon, gIn, gNotIn, gIx, gSlc, wSlc, wNoP, wPart, gLen, gAbs, gInt, gMin2, gMax2, gAll, gAny, gSum, gTuple, wNeg, wRev, itemsOf, D.isTy, D.isHand, Sl.toD, big_0, big_1, big_2, big_3, big_4, big_5, big_6, big_7, big_8, big_9, big_10, big_11, big_12, draw_iff, own_ex, val_ex, wipeE, restE, Sl.keep, Option.getD_some, get_z, get_s, set_z, set_s, List.length_cons, List.length_nil, atI_0, atI_1, atI_2, atI_3, atI_4, ixN_5_0, ixN_5_1, ixN_5_2, ixN_5_3, ixN_5_4, D.bl.injEq, D.int.injEq, D.lst.injEq, D.tup.injEq, D.str.injEq, Sl.own.injEq, Sl.val.injEq, Option.some.injEq, exists_eq_left', exists_eq_left, exists_eq', exists_eq, or_true, true_or, or_false, false_or, CMul, CPow, natAbs_10, natAbs_2, Int.cast_ofNat_Int, Nat.reducePow, exists_and_left, exists_const, and_assoc, true_and, and_true, and_self, false_and, and_false, if_true, if_false, ite_true, ite_false, reduceCtorEq, decide_true, decide_false, decide_eq_true_eq, decide_eq_false_iff_not, Bool.not_true, Bool.not_false, Bool.false_eq_true, List.replicate_zero, List.replicate_succ, List.map_cons, List.map_nil, List.nil_append, List.cons_append, Nat.reduceSub, Nat.reduceAdd, Nat.reduceLeDiff, Nat.reduceLT, Int.reduceLT, Int.reduceLE, Int.reduceAdd, Int.reduceSub, Int.reduceMul, Int.reduceNeg, Int.reduceMod, Int.reduceDiv, Int.reducePow, Int.reduceToNat, okD_int, okD_bl, okD_lst, okD_tup, okD_non, okL_nil, okL_cons, okD_str, okL_int, eqD_int, eqD_bl, eqD_str, eqD_tup, eqD_lst, eqL_cons, eqL_nil, eqL_cn, eqL_nc, eqL_int, Bool.and_eq_true, Bool.or_eq_true, Bool.not_eq_true', Bool.and_false, Bool.false_and, Bool.or_false, Bool.false_or, Bool.or_true, Bool.true_or, Bool.and_true, Bool.true_and, Bool.and_self])
      unfold B__law_is_7
      (try simp only [wSeq, wAsg, wOwn, wF, wLc, wSkip, wBrk, wCnt, wRet, wRetF, wRetN, wDrop, wIfS, wPar, wFor, wWh, wV, wApp, wExt, wSetIx, wAug, wVal, wLook, wC, wOp, wTst, wChain, wAnd, wOr, wNot, wAndV, wOrV, wNotV, wIf, wNil, wCons, wTup, wLst, wCall, wCB, wIsT, wiR1, wiR2, wiSq, wiEn, wiZip, gN, gT1, gT2, gT3, gT4, gT5, gT6, gT7, wYes, gAdd, DV.gSub, gMul, gMod, gDiv, gPow, gLt, gLe, gGt, gGe, gCmp, gEq, gNe, gIs, gIsN, isNon, gIn, gNotIn, gIx, gSlc, wSlc, wNoP, wPart, gLen, gAbs, gInt, gMin2, gMax2, gAll, gAny, gSum, gTuple, wNeg, wRev, itemsOf, D.isTy, D.isHand, Sl.toD, big_0, big_1, big_2, big_3, big_4, big_5, big_6, big_7, big_8, big_9, big_10, big_11, big_12, draw_iff, own_ex, val_ex, wipeE, restE, Sl.keep, Option.getD_some, get_z, get_s, set_z, set_s, List.length_cons, List.length_nil, atI_0, atI_1, atI_2, atI_3, atI_4, ixN_5_0, ixN_5_1, ixN_5_2, ixN_5_3, ixN_5_4, D.bl.injEq, D.int.injEq, D.lst.injEq, D.tup.injEq, D.str.injEq, Sl.own.injEq, Sl.val.injEq, Option.some.injEq, exists_eq_left', exists_eq_left, exists_eq', exists_eq, or_true, true_or, or_false, false_or, CMul, CPow, natAbs_10, natAbs_2, Int.cast_ofNat_Int, Nat.reducePow, exists_and_left, exists_const, and_assoc, true_and, and_true, and_self, false_and, and_false, if_true, if_false, ite_true, ite_false, reduceCtorEq, decide_true, decide_false, decide_eq_true_eq, decide_eq_false_iff_not, Bool.not_true, Bool.not_false, Bool.false_eq_true, List.replicate_zero, List.replicate_succ, List.map_cons, List.map_nil, List.nil_append, List.cons_append, Nat.reduceSub, Nat.reduceAdd, Nat.reduceLeDiff, Nat.reduceLT, Int.reduceLT, Int.reduceLE, Int.reduceAdd, Int.reduceSub, Int.reduceMul, Int.reduceNeg, Int.reduceMod, Int.reduceDiv, Int.reducePow, Int.reduceToNat, okD_int, okD_bl, okD_lst, okD_tup, okD_non, okL_nil, okL_cons, okD_str, okL_int, eqD_int, eqD_bl, eqD_str, eqD_tup, eqD_lst, eqL_cons, eqL_nil, eqL_cn, eqL_nc, eqL_int, Bool.and_eq_true, Bool.or_eq_true, Bool.not_eq_true', Bool.and_false, Bool.false_and, Bool.or_false, Bool.false_or, Bool.or_true, Bool.true_or, Bool.and_true, Bool.true_and, Bool.and_self])
      unfold B__law_is_9
      simp only [wSeq, wAsg, wOwn, wF, wLc, wSkip, wBrk, wCnt, wRet, wRetF, wRetN, wDrop, wIfS, wPar, wFor, wWh, wV, wApp, wExt, wSetIx, wAug, wVal, wLook, wC, wOp, wTst, wChain, wAnd, wOr, wNot, wAndV, wOrV, wNotV, wIf, wNil, wCons, wTup, wLst, wCall, wCB, wIsT, wiR1, wiR2, wiSq, wiEn, wiZip, gN, gT1, gT2, gT3, gT4, gT5, gT6, gT7, wYes, gAdd, DV.gSub, gMul, gMod, gDiv, gPow, gLt, gLe, gGt, gGe, gCmp, gEq, gNe, gIs, gIsN, isNon, gIn, gNotIn, gIx, gSlc, wSlc, wNoP, wPart, gLen, gAbs, gInt, gMin2, gMax2, gAll, gAny, gSum, gTuple, wNeg, wRev, itemsOf, D.isTy, D.isHand, Sl.toD, big_0, big_1, big_2, big_3, big_4, big_5, big_6, big_7, big_8, big_9, big_10, big_11, big_12, draw_iff, own_ex, val_ex, wipeE, restE, Sl.keep, Option.getD_some, get_z, get_s, set_z, set_s, List.length_cons, List.length_nil, atI_0, atI_1, atI_2, atI_3, atI_4, ixN_5_0, ixN_5_1, ixN_5_2, ixN_5_3, ixN_5_4, D.bl.injEq, D.int.injEq, D.lst.injEq, D.tup.injEq, D.str.injEq, Sl.own.injEq, Sl.val.injEq, Option.some.injEq, exists_eq_left', exists_eq_left, exists_eq', exists_eq, or_true, true_or, or_false, false_or, CMul, CPow, natAbs_10, natAbs_2, Int.cast_ofNat_Int, Nat.reducePow, exists_and_left, exists_const, and_assoc, true_and, and_true, and_self, false_and, and_false, if_true, if_false, ite_true, ite_false, reduceCtorEq, decide_true, decide_false, decide_eq_true_eq, decide_eq_false_iff_not, Bool.not_true, Bool.not_false, Bool.false_eq_true, List.replicate_zero, List.replicate_succ, List.map_cons, List.map_nil, List.nil_append, List.cons_append, Nat.reduceSub, Nat.reduceAdd, Nat.reduceLeDiff, Nat.reduceLT, Int.reduceLT, Int.reduceLE, Int.reduceAdd, Int.reduceSub, Int.reduceMul, Int.reduceNeg, Int.reduceMod, Int.reduceDiv, Int.reducePow, Int.reduceToNat, okD_int, okD_bl, okD_lst, okD_tup, okD_non, okL_nil, okL_cons, okD_str, okL_int, eqD_int, eqD_bl, eqD_str, eqD_tup, eqD_lst, eqL_cons, eqL_nil, eqL_cn, eqL_nc, eqL_int, Bool.and_eq_true, Bool.or_eq_true, Bool.not_eq_true', Bool.and_false, Bool.false_and, Bool.or_false, Bool.false_or, Bool.or_true, Bool.true_or, Bool.and_true, Bool.true_and, Bool.and_self, eqD_bl]
      exact q
    | int b =>
      (try simp only [wSeq, wAsg, wOwn, wF, wLc, wSkip, wBrk, wCnt, wRet, wRetF, wRetN, wDrop, wIfS, wPar, wFor, wWh, wV, wApp, wExt, wSetIx, wAug, wVal, wLook, wC, wOp, wTst, wChain, wAnd, wOr, wNot, wAndV, wOrV, wNotV, wIf, wNil, wCons, wTup, wLst, wCall, wCB, wIsT, wiR1, wiR2, wiSq, wiEn, wiZip, gN, gT1, gT2, gT3, gT4, gT5, gT6, gT7, wYes, gAdd, DV.gSub, gMul, gMod, gDiv, gPow, gLt, gLe, gGt, gGe, gCmp, gEq, gNe, gIs, gIsN, isNon, gIn, gNotIn, gIx, gSlc, wSlc, wNoP, wPart, gLen, gAbs, gInt, gMin2, gMax2, gAll, gAny, gSum, gTuple, wNeg, wRev, itemsOf, D.isTy, D.isHand, Sl.toD, big_0, big_1, big_2, big_3, big_4, big_5, big_6, big_7, big_8, big_9, big_10, big_11, big_12, draw_iff, own_ex, val_ex, wipeE, restE, Sl.keep, Option.getD_some, get_z, get_s, set_z, set_s, List.length_cons, List.length_nil, atI_0, atI_1, atI_2, atI_3, atI_4, ixN_5_0, ixN_5_1, ixN_5_2, ixN_5_3, ixN_5_4, D.bl.injEq, D.int.injEq, D.lst.injEq, D.tup.injEq, D.str.injEq, Sl.own.injEq, Sl.val.injEq, Option.some.injEq, exists_eq_left', exists_eq_left, exists_eq', exists_eq, or_true, true_or, or_false, false_or, CMul, CPow, natAbs_10, natAbs_2, Int.cast_ofNat_Int, Nat.reducePow, exists_and_left, exists_const, and_assoc, true_and, and_true, and_self, false_and, and_false, if_true, if_false, ite_true, ite_false, reduceCtorEq, decide_true, decide_false, decide_eq_true_eq, decide_eq_false_iff_not, Bool.not_true, Bool.not_false, Bool.false_eq_true, List.replicate_zero, List.replicate_succ, List.map_cons, List.map_nil, List.nil_append, List.cons_append, Nat.reduceSub, Nat.reduceAdd, Nat.reduceLeDiff, Nat.reduceLT, Int.reduceLT, Int.reduceLE, Int.reduceAdd, Int.reduceSub, Int.reduceMul, Int.reduceNeg, Int.reduceMod, Int.reduceDiv, Int.reducePow, Int.reduceToNat, okD_int, okD_bl, okD_lst, okD_tup, okD_non, okL_nil, okL_cons, okD_str, okL_int, eqD_int, eqD_bl, eqD_str, eqD_tup, eqD_lst, eqL_cons, eqL_nil, eqL_cn, eqL_nc, eqL_int, Bool.and_eq_true, Bool.or_eq_true, Bool.not_eq_true', Bool.and_false, Bool.false_and, Bool.or_false, Bool.false_or, Bool.or_true, Bool.true_or, Bool.and_true, Bool.true_and, Bool.and_self])
      unfold B__law_is_5
      (try simp only [wSeq, wAsg, wOwn, wF, wLc, wSkip, wBrk, wCnt, wRet, wRetF, wRetN, wDrop, wIfS, wPar, wFor, wWh, wV, wApp, wExt, wSetIx, wAug, wVal, wLook, wC, wOp, wTst, wChain, wAnd, wOr, wNot, wAndV, wOrV, wNotV, wIf, wNil, wCons, wTup, wLst, wCall, wCB, wIsT, wiR1, wiR2, wiSq, wiEn, wiZip, gN, gT1, gT2, gT3, gT4, gT5, gT6, gT7, wYes, gAdd, DV.gSub, gMul, gMod, gDiv, gPow, gLt, gLe, gGt, gGe, gCmp, gEq, gNe, gIs, gIsN, isNon, gIn, gNotIn, gIx, gSlc, wSlc, wNoP, wPart, gLen, gAbs, gInt, gMin2, gMax2, gAll, gAny, gSum, gTuple, wNeg, wRev, itemsOf, D.isTy, D.isHand, Sl.toD, big_0, big_1, big_2, big_3, big_4, big_5, big_6, big_7, big_8, big_9, big_10, big_11, big_12, draw_iff, own_ex, val_ex, wipeE, restE, Sl.keep, Option.getD_some, get_z, get_s, set_z, set_s, List.length_cons, List.length_nil, atI_0, atI_1, atI_2, atI_3, atI_4, ixN_5_0, ixN_5_1, ixN_5_2, ixN_5_3, ixN_5_4, D.bl.injEq, D.int.injEq, D.lst.injEq, D.tup.injEq, D.str.injEq, Sl.own.injEq, Sl.val.injEq, Option.some.injEq, exists_eq_left', exists_eq_left, exists_eq', exists_eq, or_true, true_or, or_false, false_or, CMul, CPow, natAbs_10, natAbs_2, Int.cast_ofNat_Int, Nat.reducePow, exists_and_left, exists_const, and_assoc, true_and, and_true, and_self, false_and, and_false, if_true, if_false, ite_true, ite_false, reduceCtorEq, decide_true, decide_false, decide_eq_true_eq, decide_eq_false_iff_not, Bool.not_true, Bool.not_false, Bool.false_eq_true, List.replicate_zero, List.replicate_succ, List.map_cons, List.map_nil, List.nil_append, List.cons_append, Nat.reduceSub, Nat.reduceAdd, Nat.reduceLeDiff, Nat.reduceLT, Int.reduceLT, Int.reduceLE, Int.reduceAdd, Int.reduceSub, Int.reduceMul, Int.reduceNeg, Int.reduceMod, Int.reduceDiv, Int.reducePow, Int.reduceToNat, okD_int, okD_bl, okD_lst, okD_tup, okD_non, okL_nil, okL_cons, okD_str, okL_int, eqD_int, eqD_bl, eqD_str, eqD_tup, eqD_lst, eqL_cons, eqL_nil, eqL_cn, eqL_nc, eqL_int, Bool.and_eq_true, Bool.or_eq_true, Bool.not_eq_true', Bool.and_false, Bool.false_and, Bool.or_false, Bool.false_or, Bool.or_true, Bool.true_or, Bool.and_true, Bool.true_and, Bool.and_self])
      unfold B__law_is_7
      (try simp only [wSeq, wAsg, wOwn, wF, wLc, wSkip, wBrk, wCnt, wRet, wRetF, wRetN, wDrop, wIfS, wPar, wFor, wWh, wV, wApp, wExt, wSetIx, wAug, wVal, wLook, wC, wOp, wTst, wChain, wAnd, wOr, wNot, wAndV, wOrV, wNotV, wIf, wNil, wCons, wTup, wLst, wCall, wCB, wIsT, wiR1, wiR2, wiSq, wiEn, wiZip, gN, gT1, gT2, gT3, gT4, gT5, gT6, gT7, wYes, gAdd, DV.gSub, gMul, gMod, gDiv, gPow, gLt, gLe, gGt, gGe, gCmp, gEq, gNe, gIs, gIsN, isNon, gIn, gNotIn, gIx, gSlc, wSlc, wNoP, wPart, gLen, gAbs, gInt, gMin2, gMax2, gAll, gAny, gSum, gTuple, wNeg, wRev, itemsOf, D.isTy, D.isHand, Sl.toD, big_0, big_1, big_2, big_3, big_4, big_5, big_6, big_7, big_8, big_9, big_10, big_11, big_12, draw_iff, own_ex, val_ex, wipeE, restE, Sl.keep, Option.getD_some, get_z, get_s, set_z, set_s, List.length_cons, List.length_nil, atI_0, atI_1, atI_2, atI_3, atI_4, ixN_5_0, ixN_5_1, ixN_5_2, ixN_5_3, ixN_5_4, D.bl.injEq, D.int.injEq, D.lst.injEq, D.tup.injEq, D.str.injEq, Sl.own.injEq, Sl.val.injEq, Option.some.injEq, exists_eq_left', exists_eq_left, exists_eq', exists_eq, or_true, true_or, or_false, false_or, CMul, CPow, natAbs_10, natAbs_2, Int.cast_ofNat_Int, Nat.reducePow, exists_and_left, exists_const, and_assoc, true_and, and_true, and_self, false_and, and_false, if_true, if_false, ite_true, ite_false, reduceCtorEq, decide_true, decide_false, decide_eq_true_eq, decide_eq_false_iff_not, Bool.not_true, Bool.not_false, Bool.false_eq_true, List.replicate_zero, List.replicate_succ, List.map_cons, List.map_nil, List.nil_append, List.cons_append, Nat.reduceSub, Nat.reduceAdd, Nat.reduceLeDiff, Nat.reduceLT, Int.reduceLT, Int.reduceLE, Int.reduceAdd, Int.reduceSub, Int.reduceMul, Int.reduceNeg, Int.reduceMod, Int.reduceDiv, Int.reducePow, Int.reduceToNat, okD_int, okD_bl, okD_lst, okD_tup, okD_non, okL_nil, okL_cons, okD_str, okL_int, eqD_int, eqD_bl, eqD_str, eqD_tup, eqD_lst, eqL_cons, eqL_nil, eqL_cn, eqL_nc, eqL_int, Bool.and_eq_true, Bool.or_eq_true, Bool.not_eq_true', Bool.and_false, Bool.false_and, Bool.or_false, Bool.false_or, Bool.or_true, Bool.true_or, Bool.and_true, Bool.true_and, Bool.and_self])
      unfold B__law_is_9
      (try simp only [wSeq, wAsg, wOwn, wF, wLc, wSkip, wBrk, wCnt, wRet, wRetF, wRetN, wDrop, wIfS, wPar, wFor, wWh, wV, wApp, wExt, wSetIx, wAug, wVal, wLook, wC, wOp, wTst, wChain, wAnd, wOr, wNot, wAndV, wOrV, wNotV, wIf, wNil, wCons, wTup, wLst, wCall, wCB, wIsT, wiR1, wiR2, wiSq, wiEn, wiZip, gN, gT1, gT2, gT3, gT4, gT5, gT6, gT7, wYes, gAdd, DV.gSub, gMul, gMod, gDiv, gPow, gLt, gLe, gGt, gGe, gCmp, gEq, gNe, gIs, gIsN, isNon, gIn, gNotIn, gIx, gSlc, wSlc, wNoP, wPart, gLen, gAbs, gInt, gMin2, gMax2, gAll, gAny, gSum, gTuple, wNeg, wRev, itemsOf, D.isTy, D.isHand, Sl.toD, big_0, big_1, big_2, big_3, big_4, big_5, big_6, big_7, big_8, big_9, big_10, big_11, big_12, draw_iff, own_ex, val_ex, wipeE, restE, Sl.keep, Option.getD_some, get_z, get_s, set_z, set_s, List.length_cons, List.length_nil, atI_0, atI_1, atI_2, atI_3, atI_4, ixN_5_0, ixN_5_1, ixN_5_2, ixN_5_3, ixN_5_4, D.bl.injEq, D.int.injEq, D.lst.injEq, D.tup.injEq, D.str.injEq, Sl.own.injEq, Sl.val.injEq, Option.some.injEq, exists_eq_left', exists_eq_left, exists_eq', exists_eq, or_true, true_or, or_false, false_or, CMul, CPow, natAbs_10, natAbs_2, Int.cast_ofNat_Int, Nat.reducePow, exists_and_left, exists_const, and_assoc, true_and, and_true, and_self, false_and, and_false, if_true, if_false, ite_true, ite_false, reduceCtorEq, decide_true, decide_false, decide_eq_true_eq, decide_eq_false_iff_not, Bool.not_true, Bool.not_false, Bool.false_eq_true, List.replicate_zero, List.replicate_succ, List.map_cons, List.map_nil, List.nil_append, List.cons_append, Nat.reduceSub, Nat.reduceAdd, Nat.reduceLeDiff, Nat.reduceLT, Int.reduceLT, Int.reduceLE, Int.reduceAdd, Int.reduceSub, Int.reduceMul, Int.reduceNeg, Int.reduceMod, Int.reduceDiv, Int.reducePow, Int.reduceToNat, okD_int, okD_bl, okD_lst, okD_tup, okD_non, okL_nil, okL_cons, okD_str, okL_int, eqD_int, eqD_bl, eqD_str, eqD_tup, eqD_lst, eqL_cons, eqL_nil, eqL_cn, eqL_nc, eqL_int, Bool.and_eq_true, Bool.or_eq_true, Bool.not_eq_true', Bool.and_false, Bool.false_and, Bool.or_false, Bool.false_or, Bool.or_true, Bool.true_or, Bool.and_true, Bool.true_and, Bool.and_self])
      unfold B__law_is_11
      (try simp only [wSeq, wAsg, wOwn, wF, wLc, wSkip, wBrk, wCnt, wRet, wRetF, wRetN, wDrop, wIfS, wPar, wFor, wWh, wV, wApp, wExt, wSetIx, wAug, wVal, wLook, wC, wOp, wTst, wChain, wAnd, wOr, wNot, wAndV, wOrV, wNotV, wIf, wNil, wCons, wTup, wLst, wCall, wCB, wIsT, wiR1, wiR2, wiSq, wiEn, wiZip, gN, gT1, gT2, gT3, gT4, gT5, gT6, gT7, wYes, gAdd, DV.gSub, gMul, gMod, gDiv, gPow, gLt, gLe, gGt, gGe, gCmp, gEq, gNe, gIs, gIsN, isNon, gIn, gNotIn, gIx, gSlc, wSlc, wNoP, wPart, gLen, gAbs, gInt, gMin2, gMax2, gAll, gAny, gSum, gTuple, wNeg, wRev, itemsOf, D.isTy, D.isHand, Sl.toD, big_0, big_1, big_2, big_3, big_4, big_5, big_6, big_7, big_8, big_9, big_10, big_11, big_12, draw_iff, own_ex, val_ex, wipeE, restE, Sl.keep, Option.getD_some, get_z, get_s, set_z, set_s, List.length_cons, List.length_nil, atI_0, atI_1, atI_2, atI_3, atI_4, ixN_5_0, ixN_5_1, ixN_5_2, ixN_5_3, ixN_5_4, D.bl.injEq, D.int.injEq, D.lst.injEq, D.tup.injEq, D.str.injEq, Sl.own.injEq, Sl.val.injEq, Option.some.injEq, exists_eq_left', exists_eq_left, exists_eq', exists_eq, or_true, true_or, or_false, false_or, CMul, CPow, natAbs_10, natAbs_2, Int.cast_ofNat_Int, Nat.reducePow, exists_and_left, exists_const, and_assoc, true_and, and_true, and_self, false_and, and_false, if_true, if_false, ite_true, ite_false, reduceCtorEq, decide_true, decide_false, decide_eq_true_eq, decide_eq_false_iff_not, Bool.not_true, Bool.not_false, Bool.false_eq_true, List.replicate_zero, List.replicate_succ, List.map_cons, List.map_nil, List.nil_append, List.cons_append, Nat.reduceSub, Nat.reduceAdd, Nat.reduceLeDiff, Nat.reduceLT, Int.reduceLT, Int.reduceLE, Int.reduceAdd, Int.reduceSub, Int.reduceMul, Int.reduceNeg, Int.reduceMod, Int.reduceDiv, Int.reducePow, Int.reduceToNat, okD_int, okD_bl, okD_lst, okD_tup, okD_non, okL_nil, okL_cons, okD_str, okL_int, eqD_int, eqD_bl, eqD_str, eqD_tup, eqD_lst, eqL_cons, eqL_nil, eqL_cn, eqL_nc, eqL_int, Bool.and_eq_true, Bool.or_eq_true, Bool.not_eq_true', Bool.and_false, Bool.false_and, Bool.or_false, Bool.false_or, Bool.or_true, Bool.true_or, Bool.and_true, Bool.true_and, Bool.and_self])
      unfold B__law_is_13
      simp only [wSeq, wAsg, wOwn, wF, wLc, wSkip, wBrk, wCnt, wRet, wRetF, wRetN, wDrop, wIfS, wPar, wFor, wWh, wV, wApp, wExt, wSetIx, wAug, wVal, wLook, wC, wOp, wTst, wChain, wAnd, wOr, wNot, wAndV, wOrV, wNotV, wIf, wNil, wCons, wTup, wLst, wCall, wCB, wIsT, wiR1, wiR2, wiSq, wiEn, wiZip, gN, gT1, gT2, gT3, gT4, gT5, gT6, gT7, wYes, gAdd, DV.gSub, gMul, gMod, gDiv, gPow, gLt, gLe, gGt, gGe, gCmp, gEq, gNe, gIs, gIsN, isNon, gIn, gNotIn, gIx, gSlc, wSlc, wNoP, wPart, gLen, gAbs, gInt, gMin2, gMax2, gAll, gAny, gSum, gTuple, wNeg, wRev, itemsOf, D.isTy, D.isHand, Sl.toD, big_0, big_1, big_2, big_3, big_4, big_5, big_6, big_7, big_8, big_9, big_10, big_11, big_12, draw_iff, own_ex, val_ex, wipeE, restE, Sl.keep, Option.getD_some, get_z, get_s, set_z, set_s, List.length_cons, List.length_nil, atI_0, atI_1, atI_2, atI_3, atI_4, ixN_5_0, ixN_5_1, ixN_5_2, ixN_5_3, ixN_5_4, D.bl.injEq, D.int.injEq, D.lst.injEq, D.tup.injEq, D.str.injEq, Sl.own.injEq, Sl.val.injEq, Option.some.injEq, exists_eq_left', exists_eq_left, exists_eq', exists_eq, or_true, true_or, or_false, false_or, CMul, CPow, natAbs_10, natAbs_2, Int.cast_ofNat_Int, Nat.reducePow, exists_and_left, exists_const, and_assoc, true_and, and_true, and_self, false_and, and_false, if_true, if_false, ite_true, ite_false, reduceCtorEq, decide_true, decide_false, decide_eq_true_eq, decide_eq_false_iff_not, Bool.not_true, Bool.not_false, Bool.false_eq_true, List.replicate_zero, List.replicate_succ, List.map_cons, List.map_nil, List.nil_append, List.cons_append, Nat.reduceSub, Nat.reduceAdd, Nat.reduceLeDiff, Nat.reduceLT, Int.reduceLT, Int.reduceLE, Int.reduceAdd, Int.reduceSub, Int.reduceMul, Int.reduceNeg, Int.reduceMod, Int.reduceDiv, Int.reducePow, Int.reduceToNat, okD_int, okD_bl, okD_lst, okD_tup, okD_non, okL_nil, okL_cons, okD_str, okL_int, eqD_int, eqD_bl, eqD_str, eqD_tup, eqD_lst, eqL_cons, eqL_nil, eqL_cn, eqL_nc, eqL_int, Bool.and_eq_true, Bool.or_eq_true, Bool.not_eq_true', Bool.and_false, Bool.false_and, Bool.or_false, Bool.false_or, Bool.or_true, Bool.true_or, Bool.and_true, Bool.true_and, Bool.and_self, eqD_int]
      exact q
    | str b =>
      have h1 : PyData.strOk b = true := by have h2 : okD (.str b) 60 = true := h; rwa [okD_str] at h2
      (try simp only [wSeq, wAsg, wOwn, wF, wLc, wSkip, wBrk, wCnt, wRet, wRetF, wRetN, wDrop, wIfS, wPar, wFor, wWh, wV, wApp, wExt, wSetIx, wAug, wVal, wLook, wC, wOp, wTst, wChain, wAnd, wOr, wNot, wAndV, wOrV, wNotV, wIf, wNil, wCons, wTup, wLst, wCall, wCB, wIsT, wiR1, wiR2, wiSq, wiEn, wiZip, gN, gT1, gT2, gT3, gT4, gT5, gT6, gT7, wYes, gAdd, DV.gSub, gMul, gMod, gDiv, gPow, gLt, gLe, gGt, gGe, gCmp, gEq, gNe, gIs, gIsN, isNon, gIn, gNotIn, gIx, gSlc, wSlc, wNoP, wPart, gLen, gAbs, gInt, gMin2, gMax2, gAll, gAny, gSum, gTuple, wNeg, wRev, itemsOf, D.isTy, D.isHand, Sl.toD, big_0, big_1, big_2, big_3, big_4, big_5, big_6, big_7, big_8, big_9, big_10, big_11, big_12, draw_iff, own_ex, val_ex, wipeE, restE, Sl.keep, Option.getD_some, get_z, get_s, set_z, set_s, List.length_cons, List.length_nil, atI_0, atI_1, atI_2, atI_3, atI_4, ixN_5_0, ixN_5_1, ixN_5_2, ixN_5_3, ixN_5_4, D.bl.injEq, D.int.injEq, D.lst.injEq, D.tup.injEq, D.str.injEq, Sl.own.injEq, Sl.val.injEq, Option.some.injEq, exists_eq_left', exists_eq_left, exists_eq', exists_eq, or_true, true_or, or_false, false_or, CMul, CPow, natAbs_10, natAbs_2, Int.cast_ofNat_Int, Nat.reducePow, exists_and_left, exists_const, and_assoc, true_and, and_true, and_self, false_and, and_false, if_true, if_false, ite_true, ite_false, reduceCtorEq, decide_true, decide_false, decide_eq_true_eq, decide_eq_false_iff_not, Bool.not_true, Bool.not_false, Bool.false_eq_true, List.replicate_zero, List.replicate_succ, List.map_cons, List.map_nil, List.nil_append, List.cons_append, Nat.reduceSub, Nat.reduceAdd, Nat.reduceLeDiff, Nat.reduceLT, Int.reduceLT, Int.reduceLE, Int.reduceAdd, Int.reduceSub, Int.reduceMul, Int.reduceNeg, Int.reduceMod, Int.reduceDiv, Int.reducePow, Int.reduceToNat, okD_int, okD_bl, okD_lst, okD_tup, okD_non, okL_nil, okL_cons, okD_str, okL_int, eqD_int, eqD_bl, eqD_str, eqD_tup, eqD_lst, eqL_cons, eqL_nil, eqL_cn, eqL_nc, eqL_int, Bool.and_eq_true, Bool.or_eq_true, Bool.not_eq_true', Bool.and_false, Bool.false_and, Bool.or_false, Bool.false_or, Bool.or_true, Bool.true_or, Bool.and_true, Bool.true_and, Bool.and_self])
      unfold B__law_is_5
      (try simp only [wSeq, wAsg, wOwn, wF, wLc, wSkip, wBrk, wCnt, wRet, wRetF, wRetN, wDrop, wIfS, wPar, wFor, wWh, wV, wApp, wExt, wSetIx, wAug, wVal, wLook, wC, wOp, wTst, wChain, wAnd, wOr, wNot, wAndV, wOrV, wNotV, wIf, wNil, wCons, wTup, wLst, wCall, wCB, wIsT, wiR1, wiR2, wiSq, wiEn, wiZip, gN, gT1, gT2, gT3, gT4, gT5, gT6, gT7, wYes, gAdd, DV.gSub, gMul, gMod, gDiv, gPow, gLt, gLe, gGt, gGe, gCmp, gEq, gNe, gIs, gIsN, isNon, gIn, gNotIn, gIx, gSlc, wSlc, wNoP, wPart, gLen, gAbs, gInt, gMin2, gMax2, gAll, gAny, gSum, gTuple, wNeg, wRev, itemsOf, D.isTy, D.isHand, Sl.toD, big_0, big_1, big_2, big_3, big_4, big_5, big_6, big_7, big_8, big_9, big_10, big_11, big_12, draw_iff, own_ex, val_ex, wipeE, restE, Sl.keep, Option.getD_some, get_z, get_s, set_z, set_s, List.length_cons, List.length_nil, atI_0, atI_1, atI_2, atI_3, atI_4, ixN_5_0, ixN_5_1, ixN_5_2, ixN_5_3, ixN_5_4, D.bl.injEq, D.int.injEq, D.lst.injEq, D.tup.injEq, D.str.injEq, Sl.own.injEq, Sl.val.injEq, Option.some.injEq, exists_eq_left', exists_eq_left, exists_eq', exists_eq, or_true, true_or, or_false, false_or, CMul, CPow, natAbs_10, natAbs_2, Int.cast_ofNat_Int, Nat.reducePow, exists_and_left, exists_const, and_assoc, true_and, and_true, and_self, false_and, and_false, if_true, if_false, ite_true, ite_false, reduceCtorEq, decide_true, decide_false, decide_eq_true_eq, decide_eq_false_iff_not, Bool.not_true, Bool.not_false, Bool.false_eq_true, List.replicate_zero, List.replicate_succ, List.map_cons, List.map_nil, List.nil_append, List.cons_append, Nat.reduceSub, Nat.reduceAdd, Nat.reduceLeDiff, Nat.reduceLT, Int.reduceLT, Int.reduceLE, Int.reduceAdd, Int.reduceSub, Int.reduceMul, Int.reduceNeg, Int.reduceMod, Int.reduceDiv, Int.reducePow, Int.reduceToNat, okD_int, okD_bl, okD_lst, okD_tup, okD_non, okL_nil, okL_cons, okD_str, okL_int, eqD_int, eqD_bl, eqD_str, eqD_tup, eqD_lst, eqL_cons, eqL_nil, eqL_cn, eqL_nc, eqL_int, Bool.and_eq_true, Bool.or_eq_true, Bool.not_eq_true', Bool.and_false, Bool.false_and, Bool.or_false, Bool.false_or, Bool.or_true, Bool.true_or, Bool.and_true, Bool.true_and, Bool.and_self])
      unfold B__law_is_7
      (try simp only [wSeq, wAsg, wOwn, wF, wLc, wSkip, wBrk, wCnt, wRet, wRetF, wRetN, wDrop, wIfS, wPar, wFor, wWh, wV, wApp, wExt, wSetIx, wAug, wVal, wLook, wC, wOp, wTst, wChain, wAnd, wOr, wNot, wAndV, wOrV, wNotV, wIf, wNil, wCons, wTup, wLst, wCall, wCB, wIsT, wiR1, wiR2, wiSq, wiEn, wiZip, gN, gT1, gT2, gT3, gT4, gT5, gT6, gT7, wYes, gAdd, DV.gSub, gMul, gMod, gDiv, gPow, gLt, gLe, gGt, gGe, gCmp, gEq, gNe, gIs, gIsN, isNon, gIn, gNotIn, gIx, gSlc, wSlc, wNoP, wPart, gLen, gAbs, gInt, gMin2, gMax2, gAll, gAny, gSum, gTuple, wNeg, wRev, itemsOf, D.isTy, D.isHand, Sl.toD, big_0, big_1, big_2, big_3, big_4, big_5, big_6, big_7, big_8, big_9, big_10, big_11, big_12, draw_iff, own_ex, val_ex, wipeE, restE, Sl.keep, Option.getD_some, get_z, get_s, set_z, set_s, List.length_cons, List.length_nil, atI_0, atI_1, atI_2, atI_3, atI_4, ixN_5_0, ixN_5_1, ixN_5_2, ixN_5_3, ixN_5_4, D.bl.injEq, D.int.injEq, D.lst.injEq, D.tup.injEq, D.str.injEq, Sl.own.injEq, Sl.val.injEq, Option.some.injEq, exists_eq_left', exists_eq_left, exists_eq', exists_eq, or_true, true_or, or_false, false_or, CMul, CPow, natAbs_10, natAbs_2, Int.cast_ofNat_Int, Nat.reducePow, exists_and_left, exists_const, and_assoc, true_and, and_true, and_self, false_and, and_false, if_true, if_false, ite_true, ite_false, reduceCtorEq, decide_true, decide_false, decide_eq_true_eq, decide_eq_false_iff_not, Bool.not_true, Bool.not_false, Bool.false_eq_true, List.replicate_zero, List.replicate_succ, List.map_cons, List.map_nil, List.nil_append, List.cons_append, Nat.reduceSub, Nat.reduceAdd, Nat.reduceLeDiff, Nat.reduceLT, Int.reduceLT, Int.reduceLE, Int.reduceAdd, Int.reduceSub, Int.reduceMul, Int.reduceNeg, Int.reduceMod, Int.reduceDiv, Int.reducePow, Int.reduceToNat, okD_int, okD_bl, okD_lst, okD_tup, okD_non, okL_nil, okL_cons, okD_str, okL_int, eqD_int, eqD_bl, eqD_str, eqD_tup, eqD_lst, eqL_cons, eqL_nil, eqL_cn, eqL_nc, eqL_int, Bool.and_eq_true, Bool.or_eq_true, Bool.not_eq_true', Bool.and_false, Bool.false_and, Bool.or_false, Bool.false_or, Bool.or_true, Bool.true_or, Bool.and_true, Bool.true_and, Bool.and_self])
      unfold B__law_is_9
      (try simp only [wSeq, wAsg, wOwn, wF, wLc, wSkip, wBrk, wCnt, wRet, wRetF, wRetN, wDrop, wIfS, wPar, wFor, wWh, wV, wApp, wExt, wSetIx, wAug, wVal, wLook, wC, wOp, wTst, wChain, wAnd, wOr, wNot, wAndV, wOrV, wNotV, wIf, wNil, wCons, wTup, wLst, wCall, wCB, wIsT, wiR1, wiR2, wiSq, wiEn, wiZip, gN, gT1, gT2, gT3, gT4, gT5, gT6, gT7, wYes, gAdd, DV.gSub, gMul, gMod, gDiv, gPow, gLt, gLe, gGt, gGe, gCmp, gEq, gNe, gIs, gIsN, isNon, gIn, gNotIn, gIx, gSlc, wSlc, wNoP, wPart, gLen, gAbs, gInt, gMin2, gMax2, gAll, gAny, gSum, gTuple, wNeg, wRev, itemsOf, D.isTy, D.isHand, Sl.toD, big_0, big_1, big_2, big_3, big_4, big_5, big_6, big_7, big_8, big_9, big_10, big_11, big_12, draw_iff, own_ex, val_ex, wipeE, restE, Sl.keep, Option.getD_some, get_z, get_s, set_z, set_s, List.length_cons, List.length_nil, atI_0, atI_1, atI_2, atI_3, atI_4, ixN_5_0, ixN_5_1, ixN_5_2, ixN_5_3, ixN_5_4, D.bl.injEq, D.int.injEq, D.lst.injEq, D.tup.injEq, D.str.injEq, Sl.own.injEq, Sl.val.injEq, Option.some.injEq, exists_eq_left', exists_eq_left, exists_eq', exists_eq, or_true, true_or, or_false, false_or, CMul, CPow, natAbs_10, natAbs_2, Int.cast_ofNat_Int, Nat.reducePow, exists_and_left, exists_const, and_assoc, true_and, and_true, and_self, false_and, and_false, if_true, if_false, ite_true, ite_false, reduceCtorEq, decide_true, decide_false, decide_eq_true_eq, decide_eq_false_iff_not, Bool.not_true, Bool.not_false, Bool.false_eq_true, List.replicate_zero, List.replicate_succ, List.map_cons, List.map_nil, List.nil_append, List.cons_append, Nat.reduceSub, Nat.reduceAdd, Nat.reduceLeDiff, Nat.reduceLT, Int.reduceLT, Int.reduceLE, Int.reduceAdd, Int.reduceSub, Int.reduceMul, Int.reduceNeg, Int.reduceMod, Int.reduceDiv, Int.reducePow, Int.reduceToNat, okD_int, okD_bl, okD_lst, okD_tup, okD_non, okL_nil, okL_cons, okD_str, okL_int, eqD_int, eqD_bl, eqD_str, eqD_tup, eqD_lst, eqL_cons, eqL_nil, eqL_cn, eqL_nc, eqL_int, Bool.and_eq_true, Bool.or_eq_true, Bool.not_eq_true', Bool.and_false, Bool.false_and, Bool.or_false, Bool.false_or, Bool.or_true, Bool.true_or, Bool.and_true, Bool.true_and, Bool.and_self])
      unfold B__law_is_11
      simp only [wSeq, wAsg, wOwn, wF, wLc, wSkip, wBrk, wCnt, wRet, wRetF, wRetN, wDrop, wIfS, wPar, wFor, wWh, wV, wApp, wExt, wSetIx, wAug, wVal, wLook, wC, wOp, wTst, wChain, wAnd, wOr, wNot, wAndV, wOrV, wNotV, wIf, wNil, wCons, wTup, wLst, wCall, wCB, wIsT, wiR1, wiR2, wiSq, wiEn, wiZip, gN, gT1, gT2, gT3, gT4, gT5, gT6, gT7, wYes, gAdd, DV.gSub, gMul, gMod, gDiv, gPow, gLt, gLe, gGt, gGe, gCmp, gEq, gNe, gIs, gIsN, isNon, gIn, gNotIn, gIx, gSlc, wSlc, wNoP, wPart, gLen, gAbs, gInt, gMin2, gMax2, gAll, gAny, gSum, gTuple, wNeg, wRev, itemsOf, D.isTy, D.isHand, Sl.toD, big_0, big_1, big_2, big_3, big_4, big_5, big_6, big_7, big_8, big_9, big_10, big_11, big_12, draw_iff, own_ex, val_ex, wipeE, restE, Sl.keep, Option.getD_some, get_z, get_s, set_z, set_s, List.length_cons, List.length_nil, atI_0, atI_1, atI_2, atI_3, atI_4, ixN_5_0, ixN_5_1, ixN_5_2, ixN_5_3, ixN_5_4, D.bl.injEq, D.int.injEq, D.lst.injEq, D.tup.injEq, D.str.injEq, Sl.own.injEq, Sl.val.injEq, Option.some.injEq, exists_eq_left', exists_eq_left, exists_eq', exists_eq, or_true, true_or, or_false, false_or, CMul, CPow, natAbs_10, natAbs_2, Int.cast_ofNat_Int, Nat.reducePow, exists_and_left, exists_const, and_assoc, true_and, and_true, and_self, false_and, and_false, if_true, if_false, ite_true, ite_false, reduceCtorEq, decide_true, decide_false, decide_eq_true_eq, decide_eq_false_iff_not, Bool.not_true, Bool.not_false, Bool.false_eq_true, List.replicate_zero, List.replicate_succ, List.map_cons, List.map_nil, List.nil_append, List.cons_append, Nat.reduceSub, Nat.reduceAdd, Nat.reduceLeDiff, Nat.reduceLT, Int.reduceLT, Int.reduceLE, Int.reduceAdd, Int.reduceSub, Int.reduceMul, Int.reduceNeg, Int.reduceMod, Int.reduceDiv, Int.reducePow, Int.reduceToNat, okD_int, okD_bl, okD_lst, okD_tup, okD_non, okL_nil, okL_cons, okD_str, okL_int, eqD_int, eqD_bl, eqD_str, eqD_tup, eqD_lst, eqL_cons, eqL_nil, eqL_cn, eqL_nc, eqL_int, Bool.and_eq_true, Bool.or_eq_true, Bool.not_eq_true', Bool.and_false, Bool.false_and, Bool.or_false, Bool.false_or, Bool.or_true, Bool.true_or, Bool.and_true, Bool.true_and, Bool.and_self, h1, eqD_str]
      exact q
    | tup xs =>
      obtain ⟨h1, h2⟩ := h
      (try simp only [wSeq, wAsg, wOwn, wF, wLc, wSkip, wBrk, wCnt, wRet, wRetF, wRetN, wDrop, wIfS, wPar, wFor, wWh, wV, wApp, wExt, wSetIx, wAug, wVal, wLook, wC, wOp, wTst, wChain, wAnd, wOr, wNot, wAndV, wOrV, wNotV, wIf, wNil, wCons, wTup, wLst, wCall, wCB, wIsT, wiR1, wiR2, wiSq, wiEn, wiZip, gN, gT1, gT2, gT3, gT4, gT5, gT6, gT7, wYes, gAdd, DV.gSub, gMul, gMod, gDiv, gPow, gLt, gLe, gGt, gGe, gCmp, gEq, gNe, gIs, gIsN, isNon, gIn, gNotIn, gIx, gSlc, wSlc, wNoP, wPart, gLen, gAbs, gInt, gMin2, gMax2, gAll, gAny, gSum, gTuple, wNeg, wRev, itemsOf, D.isTy, D.isHand, Sl.toD, big_0, big_1, big_2, big_3, big_4, big_5, big_6, big_7, big_8, big_9, big_10, big_11, big_12, draw_iff, own_ex, val_ex, wipeE, restE, Sl.keep, Option.getD_some, get_z, get_s, set_z, set_s, List.length_cons, List.length_nil, atI_0, atI_1, atI_2, atI_3, atI_4, ixN_5_0, ixN_5_1, ixN_5_2, ixN_5_3, ixN_5_4, D.bl.injEq, D.int.injEq, D.lst.injEq, D.tup.injEq, D.str.injEq, Sl.own.injEq, Sl.val.injEq, Option.some.injEq, exists_eq_left', exists_eq_left, exists_eq', exists_eq, or_true, true_or, or_false, false_or, CMul, CPow, natAbs_10, natAbs_2, Int.cast_ofNat_Int, Nat.reducePow, exists_and_left, exists_const, and_assoc, true_and, and_true, and_self, false_and, and_false, if_true, if_false, ite_true, ite_false, reduceCtorEq, decide_true, decide_false, decide_eq_true_eq, decide_eq_false_iff_not, Bool.not_true, Bool.not_false, Bool.false_eq_true, List.replicate_zero, List.replicate_succ, List.map_cons, List.map_nil, List.nil_append, List.cons_append, Nat.reduceSub, Nat.reduceAdd, Nat.reduceLeDiff, Nat.reduceLT, Int.reduceLT, Int.reduceLE, Int.reduceAdd, Int.reduceSub, Int.reduceMul, Int.reduceNeg, Int.reduceMod, Int.reduceDiv, Int.reducePow, Int.reduceToNat, okD_int, okD_bl, okD_lst, okD_tup, okD_non, okL_nil, okL_cons, okD_str, okL_int, eqD_int, eqD_bl, eqD_str, eqD_tup, eqD_lst, eqL_cons, eqL_nil, eqL_cn, eqL_nc, eqL_int, Bool.and_eq_true, Bool.or_eq_true, Bool.not_eq_true', Bool.and_false, Bool.false_and, Bool.or_false, Bool.false_or, Bool.or_true, Bool.true_or, Bool.and_true, Bool.true_and, Bool.and_self])
      unfold B__law_is_2
      simp only [wSeq, wAsg, wOwn, wF, wLc, wSkip, wBrk, wCnt, wRet, wRetF, wRetN, wDrop, wIfS, wPar, wFor, wWh, wV, wApp, wExt, wSetIx, wAug, wVal, wLook, wC, wOp, wTst, wChain, wAnd, wOr, wNot, wAndV, wOrV, wNotV, wIf, wNil, wCons, wTup, wLst, wCall, wCB, wIsT, wiR1, wiR2, wiSq, wiEn, wiZip, gN, gT1, gT2, gT3, gT4, gT5, gT6, gT7, wYes, gAdd, DV.gSub, gMul, gMod, gDiv, gPow, gLt, gLe, gGt, gGe, gCmp, gEq, gNe, gIs, gIsN, isNon, gIn, gNotIn, gIx, gSlc, wSlc, wNoP, wPart, gLen, gAbs, gInt, gMin2, gMax2, gAll, gAny, gSum, gTuple, wNeg, wRev, itemsOf, D.isTy, D.isHand, Sl.toD, big_0, big_1, big_2, big_3, big_4, big_5, big_6, big_7, big_8, big_9, big_10, big_11, big_12, draw_iff, own_ex, val_ex, wipeE, restE, Sl.keep, Option.getD_some, get_z, get_s, set_z, set_s, List.length_cons, List.length_nil, atI_0, atI_1, atI_2, atI_3, atI_4, ixN_5_0, ixN_5_1, ixN_5_2, ixN_5_3, ixN_5_4, D.bl.injEq, D.int.injEq, D.lst.injEq, D.tup.injEq, D.str.injEq, Sl.own.injEq, Sl.val.injEq, Option.some.injEq, exists_eq_left', exists_eq_left, exists_eq', exists_eq, or_true, true_or, or_false, false_or, CMul, CPow, natAbs_10, natAbs_2, Int.cast_ofNat_Int, Nat.reducePow, exists_and_left, exists_const, and_assoc, true_and, and_true, and_self, false_and, and_false, if_true, if_false, ite_true, ite_false, reduceCtorEq, decide_true, decide_false, decide_eq_true_eq, decide_eq_false_iff_not, Bool.not_true, Bool.not_false, Bool.false_eq_true, List.replicate_zero, List.replicate_succ, List.map_cons, List.map_nil, List.nil_append, List.cons_append, Nat.reduceSub, Nat.reduceAdd, Nat.reduceLeDiff, Nat.reduceLT, Int.reduceLT, Int.reduceLE, Int.reduceAdd, Int.reduceSub, Int.reduceMul, Int.reduceNeg, Int.reduceMod, Int.reduceDiv, Int.reducePow, Int.reduceToNat, okD_int, okD_bl, okD_lst, okD_tup, okD_non, okL_nil, okL_cons, okD_str, okL_int, eqD_int, eqD_bl, eqD_str, eqD_tup, eqD_lst, eqL_cons, eqL_nil, eqL_cn, eqL_nc, eqL_int, Bool.and_eq_true, Bool.or_eq_true, Bool.not_eq_true', Bool.and_false, Bool.false_and, Bool.or_false, Bool.false_or, Bool.or_true, Bool.true_or, Bool.and_true, Bool.true_and, Bool.and_self, eqD_bl]
      unfold B__law_is_4
      simp only [wSeq, wAsg, wOwn, wF, wLc, wSkip, wBrk, wCnt, wRet, wRetF, wRetN, wDrop, wIfS, wPar, wFor, wWh, wV, wApp, wExt, wSetIx, wAug, wVal, wLook, wC, wOp, wTst, wChain, wAnd, wOr, wNot, wAndV, wOrV, wNotV, wIf, wNil, wCons, wTup, wLst, wCall, wCB, wIsT, wiR1, wiR2, wiSq, wiEn, wiZip, gN, gT1, gT2, gT3, gT4, gT5, gT6, gT7, wYes, gAdd, DV.gSub, gMul, gMod, gDiv, gPow, gLt, gLe, gGt, gGe, gCmp, gEq, gNe, gIs, gIsN, isNon, gIn, gNotIn, gIx, gSlc, wSlc, wNoP, wPart, gLen, gAbs, gInt, gMin2, gMax2, gAll, gAny, gSum, gTuple, wNeg, wRev, itemsOf, D.isTy, D.isHand, Sl.toD, big_0, big_1, big_2, big_3, big_4, big_5, big_6, big_7, big_8, big_9, big_10, big_11, big_12, draw_iff, own_ex, val_ex, wipeE, restE, Sl.keep, Option.getD_some, get_z, get_s, set_z, set_s, List.length_cons, List.length_nil, atI_0, atI_1, atI_2, atI_3, atI_4, ixN_5_0, ixN_5_1, ixN_5_2, ixN_5_3, ixN_5_4, D.bl.injEq, D.int.injEq, D.lst.injEq, D.tup.injEq, D.str.injEq, Sl.own.injEq, Sl.val.injEq, Option.some.injEq, exists_eq_left', exists_eq_left, exists_eq', exists_eq, or_true, true_or, or_false, false_or, CMul, CPow, natAbs_10, natAbs_2, Int.cast_ofNat_Int, Nat.reducePow, exists_and_left, exists_const, and_assoc, true_and, and_true, and_self, false_and, and_false, if_true, if_false, ite_true, ite_false, reduceCtorEq, decide_true, decide_false, decide_eq_true_eq, decide_eq_false_iff_not, Bool.not_true, Bool.not_false, Bool.false_eq_true, List.replicate_zero, List.replicate_succ, List.map_cons, List.map_nil, List.nil_append, List.cons_append, Nat.reduceSub, Nat.reduceAdd, Nat.reduceLeDiff, Nat.reduceLT, Int.reduceLT, Int.reduceLE, Int.reduceAdd, Int.reduceSub, Int.reduceMul, Int.reduceNeg, Int.reduceMod, Int.reduceDiv, Int.reducePow, Int.reduceToNat, okD_int, okD_bl, okD_lst, okD_tup, okD_non, okL_nil, okL_cons, okD_str, okL_int, eqD_int, eqD_bl, eqD_str, eqD_tup, eqD_lst, eqL_cons, eqL_nil, eqL_cn, eqL_nc, eqL_int, Bool.and_eq_true, Bool.or_eq_true, Bool.not_eq_true', Bool.and_false, Bool.false_and, Bool.or_false, Bool.false_or, Bool.or_true, Bool.true_or, Bool.and_true, Bool.true_and, Bool.and_self, eqD_int]
      exact ⟨by rw [zipD_len]; omega, seq xs h2 _ fun a => by
        simp only [wSeq, wAsg, wOwn, wF, wLc, wSkip, wBrk, wCnt, wRet, wRetF, wRetN, wDrop, wIfS, wPar, wFor, wWh, wV, wApp, wExt, wSetIx, wAug, wVal, wLook, wC, wOp, wTst, wChain, wAnd, wOr, wNot, wAndV, wOrV, wNotV, wIf, wNil, wCons, wTup, wLst, wCall, wCB, wIsT, wiR1, wiR2, wiSq, wiEn, wiZip, gN, gT1, gT2, gT3, gT4, gT5, gT6, gT7, wYes, gAdd, DV.gSub, gMul, gMod, gDiv, gPow, gLt, gLe, gGt, gGe, gCmp, gEq, gNe, gIs, gIsN, isNon, gIn, gNotIn, gIx, gSlc, wSlc, wNoP, wPart, gLen, gAbs, gInt, gMin2, gMax2, gAll, gAny, gSum, gTuple, wNeg, wRev, itemsOf, D.isTy, D.isHand, Sl.toD, big_0, big_1, big_2, big_3, big_4, big_5, big_6, big_7, big_8, big_9, big_10, big_11, big_12, draw_iff, own_ex, val_ex, wipeE, restE, Sl.keep, Option.getD_some, get_z, get_s, set_z, set_s, List.length_cons, List.length_nil, atI_0, atI_1, atI_2, atI_3, atI_4, ixN_5_0, ixN_5_1, ixN_5_2, ixN_5_3, ixN_5_4, D.bl.injEq, D.int.injEq, D.lst.injEq, D.tup.injEq, D.str.injEq, Sl.own.injEq, Sl.val.injEq, Option.some.injEq, exists_eq_left', exists_eq_left, exists_eq', exists_eq, or_true, true_or, or_false, false_or, CMul, CPow, natAbs_10, natAbs_2, Int.cast_ofNat_Int, Nat.reducePow, exists_and_left, exists_const, and_assoc, true_and, and_true, and_self, false_and, and_false, if_true, if_false, ite_true, ite_false, reduceCtorEq, decide_true, decide_false, decide_eq_true_eq, decide_eq_false_iff_not, Bool.not_true, Bool.not_false, Bool.false_eq_true, List.replicate_zero, List.replicate_succ, List.map_cons, List.map_nil, List.nil_append, List.cons_append, Nat.reduceSub, Nat.reduceAdd, Nat.reduceLeDiff, Nat.reduceLT, Int.reduceLT, Int.reduceLE, Int.reduceAdd, Int.reduceSub, Int.reduceMul, Int.reduceNeg, Int.reduceMod, Int.reduceDiv, Int.reducePow, Int.reduceToNat, okD_int, okD_bl, okD_lst, okD_tup, okD_non, okL_nil, okL_cons, okD_str, okL_int, eqD_int, eqD_bl, eqD_str, eqD_tup, eqD_lst, eqL_cons, eqL_nil, eqL_cn, eqL_nc, eqL_int, Bool.and_eq_true, Bool.or_eq_true, Bool.not_eq_true', Bool.and_false, Bool.false_and, Bool.or_false, Bool.false_or, Bool.or_true, Bool.true_or, Bool.and_true, Bool.true_and, Bool.and_self, tb, al]
        exact q⟩
    | lst xs =>
      obtain ⟨h1, h2⟩ := h
      (try simp only [wSeq, wAsg, wOwn, wF, wLc, wSkip, wBrk, wCnt, wRet, wRetF, wRetN, wDrop, wIfS, wPar, wFor, wWh, wV, wApp, wExt, wSetIx, wAug, wVal, wLook, wC, wOp, wTst, wChain, wAnd, wOr, wNot, wAndV, wOrV, wNotV, wIf, wNil, wCons, wTup, wLst, wCall, wCB, wIsT, wiR1, wiR2, wiSq, wiEn, wiZip, gN, gT1, gT2, gT3, gT4, gT5, gT6, gT7, wYes, gAdd, DV.gSub, gMul, gMod, gDiv, gPow, gLt, gLe, gGt, gGe, gCmp, gEq, gNe, gIs, gIsN, isNon, gIn, gNotIn, gIx, gSlc, wSlc, wNoP, wPart, gLen, gAbs, gInt, gMin2, gMax2, gAll, gAny, gSum, gTuple, wNeg, wRev, itemsOf, D.isTy, D.isHand, Sl.toD, big_0, big_1, big_2, big_3, big_4, big_5, big_6, big_7, big_8, big_9, big_10, big_11, big_12, draw_iff, own_ex, val_ex, wipeE, restE, Sl.keep, Option.getD_some, get_z, get_s, set_z, set_s, List.length_cons, List.length_nil, atI_0, atI_1, atI_2, atI_3, atI_4, ixN_5_0, ixN_5_1, ixN_5_2, ixN_5_3, ixN_5_4, D.bl.injEq, D.int.injEq, D.lst.injEq, D.tup.injEq, D.str.injEq, Sl.own.injEq, Sl.val.injEq, Option.some.injEq, exists_eq_left', exists_eq_left, exists_eq', exists_eq, or_true, true_or, or_false, false_or, CMul, CPow, natAbs_10, natAbs_2, Int.cast_ofNat_Int, Nat.reducePow, exists_and_left, exists_const, and_assoc, true_and, and_true, and_self, false_and, and_false, if_true, if_false, ite_true, ite_false, reduceCtorEq, decide_true, decide_false, decide_eq_true_eq, decide_eq_false_iff_not, Bool.not_true, Bool.not_false, Bool.false_eq_true, List.replicate_zero, List.replicate_succ, List.map_cons, List.map_nil, List.nil_append, List.cons_append, Nat.reduceSub, Nat.reduceAdd, Nat.reduceLeDiff, Nat.reduceLT, Int.reduceLT, Int.reduceLE, Int.reduceAdd, Int.reduceSub, Int.reduceMul, Int.reduceNeg, Int.reduceMod, Int.reduceDiv, Int.reducePow, Int.reduceToNat, okD_int, okD_bl, okD_lst, okD_tup, okD_non, okL_nil, okL_cons, okD_str, okL_int, eqD_int, eqD_bl, eqD_str, eqD_tup, eqD_lst, eqL_cons, eqL_nil, eqL_cn, eqL_nc, eqL_int, Bool.and_eq_true, Bool.or_eq_true, Bool.not_eq_true', Bool.and_false, Bool.false_and, Bool.or_false, Bool.false_or, Bool.or_true, Bool.true_or, Bool.and_true, Bool.true_and, Bool.and_self])
      unfold B__law_is_2
      simp only [wSeq, wAsg, wOwn, wF, wLc, wSkip, wBrk, wCnt, wRet, wRetF, wRetN, wDrop, wIfS, wPar, wFor, wWh, wV, wApp, wExt, wSetIx, wAug, wVal, wLook, wC, wOp, wTst, wChain, wAnd, wOr, wNot, wAndV, wOrV, wNotV, wIf, wNil, wCons, wTup, wLst, wCall, wCB, wIsT, wiR1, wiR2, wiSq, wiEn, wiZip, gN, gT1, gT2, gT3, gT4, gT5, gT6, gT7, wYes, gAdd, DV.gSub, gMul, gMod, gDiv, gPow, gLt, gLe, gGt, gGe, gCmp, gEq, gNe, gIs, gIsN, isNon, gIn, gNotIn, gIx, gSlc, wSlc, wNoP, wPart, gLen, gAbs, gInt, gMin2, gMax2, gAll, gAny, gSum, gTuple, wNeg, wRev, itemsOf, D.isTy, D.isHand, Sl.toD, big_0, big_1, big_2, big_3, big_4, big_5, big_6, big_7, big_8, big_9, big_10, big_11, big_12, draw_iff, own_ex, val_ex, wipeE, restE, Sl.keep, Option.getD_some, get_z, get_s, set_z, set_s, List.length_cons, List.length_nil, atI_0, atI_1, atI_2, atI_3, atI_4, ixN_5_0, ixN_5_1, ixN_5_2, ixN_5_3, ixN_5_4, D.bl.injEq, D.int.injEq, D.lst.injEq, D.tup.injEq, D.str.injEq, Sl.own.injEq, Sl.val.injEq, Option.some.injEq, exists_eq_left', exists_eq_left, exists_eq', exists_eq, or_true, true_or, or_false, false_or, CMul, CPow, natAbs_10, natAbs_2, Int.cast_ofNat_Int, Nat.reducePow, exists_and_left, exists_const, and_assoc, true_and, and_true, and_self, false_and, and_false, if_true, if_false, ite_true, ite_false, reduceCtorEq, decide_true, decide_false, decide_eq_true_eq, decide_eq_false_iff_not, Bool.not_true, Bool.not_false, Bool.false_eq_true, List.replicate_zero, List.replicate_succ, List.map_cons, List.map_nil, List.nil_append, List.cons_append, Nat.reduceSub, Nat.reduceAdd, Nat.reduceLeDiff, Nat.reduceLT, Int.reduceLT, Int.reduceLE, Int.reduceAdd, Int.reduceSub, Int.reduceMul, Int.reduceNeg, Int.reduceMod, Int.reduceDiv, Int.reducePow, Int.reduceToNat, okD_int, okD_bl, okD_lst, okD_tup, okD_non, okL_nil, okL_cons, okD_str, okL_int, eqD_int, eqD_bl, eqD_str, eqD_tup, eqD_lst, eqL_cons, eqL_nil, eqL_cn, eqL_nc, eqL_int, Bool.and_eq_true, Bool.or_eq_true, Bool.not_eq_true', Bool.and_false, Bool.false_and, Bool.or_false, Bool.false_or, Bool.or_true, Bool.true_or, Bool.and_true, Bool.true_and, Bool.and_self, eqD_bl]
      unfold B__law_is_4
      simp only [wSeq, wAsg, wOwn, wF, wLc, wSkip, wBrk, wCnt, wRet, wRetF, wRetN, wDrop, wIfS, wPar, wFor, wWh, wV, wApp, wExt, wSetIx, wAug, wVal, wLook, wC, wOp, wTst, wChain, wAnd, wOr, wNot, wAndV, wOrV, wNotV, wIf, wNil, wCons, wTup, wLst, wCall, wCB, wIsT, wiR1, wiR2, wiSq, wiEn, wiZip, gN, gT1, gT2, gT3, gT4, gT5, gT6, gT7, wYes, gAdd, DV.gSub, gMul, gMod, gDiv, gPow, gLt, gLe, gGt, gGe, gCmp, gEq, gNe, gIs, gIsN, isNon, gIn, gNotIn, gIx, gSlc, wSlc, wNoP, wPart, gLen, gAbs, gInt, gMin2, gMax2, gAll, gAny, gSum, gTuple, wNeg, wRev, itemsOf, D.isTy, D.isHand, Sl.toD, big_0, big_1, big_2, big_3, big_4, big_5, big_6, big_7, big_8, big_9, big_10, big_11, big_12, draw_iff, own_ex, val_ex, wipeE, restE, Sl.keep, Option.getD_some, get_z, get_s, set_z, set_s, List.length_cons, List.length_nil, atI_0, atI_1, atI_2, atI_3, atI_4, ixN_5_0, ixN_5_1, ixN_5_2, ixN_5_3, ixN_5_4, D.bl.injEq, D.int.injEq, D.lst.injEq, D.tup.injEq, D.str.injEq, Sl.own.injEq, Sl.val.injEq, Option.some.injEq, exists_eq_left', exists_eq_left, exists_eq', exists_eq, or_true, true_or, or_false, false_or, CMul, CPow, natAbs_10, natAbs_2, Int.cast_ofNat_Int, Nat.reducePow, exists_and_left, exists_const, and_assoc, true_and, and_true, and_self, false_and, and_false, if_true, if_false, ite_true, ite_false, reduceCtorEq, decide_true, decide_false, decide_eq_true_eq, decide_eq_false_iff_not, Bool.not_true, Bool.not_false, Bool.false_eq_true, List.replicate_zero, List.replicate_succ, List.map_cons, List.map_nil, List.nil_append, List.cons_append, Nat.reduceSub, Nat.reduceAdd, Nat.reduceLeDiff, Nat.reduceLT, Int.reduceLT, Int.reduceLE, Int.reduceAdd, Int.reduceSub, Int.reduceMul, Int.reduceNeg, Int.reduceMod, Int.reduceDiv, Int.reducePow, Int.reduceToNat, okD_int, okD_bl, okD_lst, okD_tup, okD_non, okL_nil, okL_cons, okD_str, okL_int, eqD_int, eqD_bl, eqD_str, eqD_tup, eqD_lst, eqL_cons, eqL_nil, eqL_cn, eqL_nc, eqL_int, Bool.and_eq_true, Bool.or_eq_true, Bool.not_eq_true', Bool.and_false, Bool.false_and, Bool.or_false, Bool.false_or, Bool.or_true, Bool.true_or, Bool.and_true, Bool.true_and, Bool.and_self, eqD_int]
      exact ⟨by rw [zipD_len]; omega, seq xs h2 _ fun a => by
        simp only [wSeq, wAsg, wOwn, wF, wLc, wSkip, wBrk, wCnt, wRet, wRetF, wRetN, wDrop, wIfS, wPar, wFor, wWh, wV, wApp, wExt, wSetIx, wAug, wVal, wLook, wC, wOp, wTst, wChain, wAnd, wOr, wNot, wAndV, wOrV, wNotV, wIf, wNil, wCons, wTup, wLst, wCall, wCB, wIsT, wiR1, wiR2, wiSq, wiEn, wiZip, gN, gT1, gT2, gT3, gT4, gT5, gT6, gT7, wYes, gAdd, DV.gSub, gMul, gMod, gDiv, gPow, gLt, gLe, gGt, gGe, gCmp, gEq, gNe, gIs, gIsN, isNon, gIn, gNotIn, gIx, gSlc, wSlc, wNoP, wPart, gLen, gAbs, gInt, gMin2, gMax2, gAll, gAny, gSum, gTuple, wNeg, wRev, itemsOf, D.isTy, D.isHand, Sl.toD, big_0, big_1, big_2, big_3, big_4, big_5, big_6, big_7, big_8, big_9, big_10, big_11, big_12, draw_iff, own_ex, val_ex, wipeE, restE, Sl.keep, Option.getD_some, get_z, get_s, set_z, set_s, List.length_cons, List.length_nil, atI_0, atI_1, atI_2, atI_3, atI_4, ixN_5_0, ixN_5_1, ixN_5_2, ixN_5_3, ixN_5_4, D.bl.injEq, D.int.injEq, D.lst.injEq, D.tup.injEq, D.str.injEq, Sl.own.injEq, Sl.val.injEq, Option.some.injEq, exists_eq_left', exists_eq_left, exists_eq', exists_eq, or_true, true_or, or_false, false_or, CMul, CPow, natAbs_10, natAbs_2, Int.cast_ofNat_Int, Nat.reducePow, exists_and_left, exists_const, and_assoc, true_and, and_true, and_self, false_and, and_false, if_true, if_false, ite_true, ite_false, reduceCtorEq, decide_true, decide_false, decide_eq_true_eq, decide_eq_false_iff_not, Bool.not_true, Bool.not_false, Bool.false_eq_true, List.replicate_zero, List.replicate_succ, List.map_cons, List.map_nil, List.nil_append, List.cons_append, Nat.reduceSub, Nat.reduceAdd, Nat.reduceLeDiff, Nat.reduceLT, Int.reduceLT, Int.reduceLE, Int.reduceAdd, Int.reduceSub, Int.reduceMul, Int.reduceNeg, Int.reduceMod, Int.reduceDiv, Int.reducePow, Int.reduceToNat, okD_int, okD_bl, okD_lst, okD_tup, okD_non, okL_nil, okL_cons, okD_str, okL_int, eqD_int, eqD_bl, eqD_str, eqD_tup, eqD_lst, eqL_cons, eqL_nil, eqL_cn, eqL_nc, eqL_int, Bool.and_eq_true, Bool.or_eq_true, Bool.not_eq_true', Bool.and_false, Bool.false_and, Bool.or_false, Bool.false_or, Bool.or_true, Bool.true_or, Bool.and_true, Bool.true_and, Bool.and_self, tb, al]
        exact q⟩
    | dct _ => exact h.elim
    | obj _ _ => exact h.elim
    | frz _ => exact h.elim
    | hand => exact h.elim
end

/-- the first place and gap that c takes -/
def fGp (c : Int → Int → Bool) (k g : Int) : Option D := if c k g = true then some (D.tup [.str "place", .int k, .int g]) else none
def fPl (c : Int → Int → Bool) (b k : Int) : Option D := (rangeI 1 b).findSome? (fGp c k)
def plc (c : Int → Int → Bool) (n b : Int) : D := ((rangeI 0 n).findSome? (fPl c b)).getD (.tup [.str "seen"])
def cOne (b q m : Int) (k g : Int) : Bool := decide (g * b ^ k.toNat * m % q = 0)
structure FitOk (b q : Int) : Prop where
  h1 : 2 ≤ b
  h2 : b ≤ 36
  h3 : 2 ≤ q
  h4 : q ≤ 200
  h5 : q ≤ b * b
theorem plc_cases (c : Int → Int → Bool) (n b : Int) : (plc c n b = .tup [.str "seen"] ∧ ∀ k g, 0 ≤ k → k < n → 1 ≤ g → g < b → c k g = false) ∨ (∃ k g, 0 ≤ k ∧ k < n ∧ 1 ≤ g ∧ g < b ∧ c k g = true ∧ plc c n b = .tup [.str "place", .int k, .int g]) := by
  unfold plc
  cases hf : (rangeI 0 n).findSome? (fPl c b) with
  | none =>
    refine .inl ⟨rfl, fun k g h1 h2 h3 h4 => ?_⟩
    have h5 := List.findSome?_eq_none_iff.mp hf k (mem_rangeI.mpr ⟨h1, h2⟩)
    unfold fPl at h5
    have h6 := List.findSome?_eq_none_iff.mp h5 g (mem_rangeI.mpr ⟨h3, h4⟩)
    unfold fGp at h6
    split at h6
    · cases h6
    · rename_i h7; simpa using h7
  | some d =>
    obtain ⟨k, hk, h5⟩ := List.exists_of_findSome?_eq_some hf
    unfold fPl at h5
    obtain ⟨g, hg, h6⟩ := List.exists_of_findSome?_eq_some h5
    rw [mem_rangeI] at hk hg
    unfold fGp at h6
    split at h6
    · rename_i h7
      cases h6
      exact .inr ⟨k, g, hk.1, hk.2, hg.1, hg.2, h7, rfl⟩
    · cases h6

section
variable {Q : D → Prop} {E : Er → Prop}
theorem sp_unseen_one {b q n : Int} (f : FitOk b q) (h1 : 1 ≤ n) (h2 : n ≤ 24) (h : Q (plc (cOne b q 1) n b)) : T_unseen_one [.int b, .int q, .int n] Q E := by
  obtain ⟨g1, g2, g3, g4, g5⟩ := f
  unfold T_unseen_one wFn B_unseen_one
  simp only [wSeq, wAsg, wOwn, wF, wLc, wSkip, wBrk, wCnt, wRet, wRetF, wRetN, wDrop, wIfS, wPar, wFor, wWh, wV, wApp, wExt, wSetIx, wAug, wVal, wLook, wC, wOp, wTst, wChain, wAnd, wOr, wNot, wAndV, wOrV, wNotV, wIf, wNil, wCons, wTup, wLst, wCall, wCB, wIsT, wiR1, wiR2, wiSq, wiEn, wiZip, gN, gT1, gT2, gT3, gT4, gT5, gT6, gT7, wYes, gAdd, DV.gSub, gMul, gMod, gDiv, gPow, gLt, gLe, gGt, gGe, gCmp, gEq, gNe, gIs, gIsN, isNon, gIn, gNotIn, gIx, gSlc, wSlc, wNoP, wPart, gLen, gAbs, gInt, gMin2, gMax2, gAll, gAny, gSum, gTuple, wNeg, wRev, itemsOf, D.isTy, D.isHand, Sl.toD, big_0, big_1, big_2, big_3, big_4, big_5, big_6, big_7, big_8, big_9, big_10, big_11, big_12, draw_iff, own_ex, val_ex, wipeE, restE, Sl.keep, Option.getD_some, get_z, get_s, set_z, set_s, List.length_cons, List.length_nil, atI_0, atI_1, atI_2, atI_3, atI_4, ixN_5_0, ixN_5_1, ixN_5_2, ixN_5_3, ixN_5_4, D.bl.injEq, D.int.injEq, D.lst.injEq, D.tup.injEq, D.str.injEq, Sl.own.injEq, Sl.val.injEq, Option.some.injEq, exists_eq_left', exists_eq_left, exists_eq', exists_eq, or_true, true_or, or_false, false_or, CMul, CPow, natAbs_10, natAbs_2, Int.cast_ofNat_Int, Nat.reducePow, exists_and_left, exists_const, and_assoc, true_and, and_true, and_self, false_and, and_false, if_true, if_false, ite_true, ite_false, reduceCtorEq, decide_true, decide_false, decide_eq_true_eq, decide_eq_false_iff_not, Bool.not_true, Bool.not_false, Bool.false_eq_true, List.replicate_zero, List.replicate_succ, List.map_cons, List.map_nil, List.nil_append, List.cons_append, Nat.reduceSub, Nat.reduceAdd, Nat.reduceLeDiff, Nat.reduceLT, Int.reduceLT, Int.reduceLE, Int.reduceAdd, Int.reduceSub, Int.reduceMul, Int.reduceNeg, Int.reduceMod, Int.reduceDiv, Int.reducePow, Int.reduceToNat, okD_int, okD_bl, okD_lst, okD_tup, okD_non, okL_nil, okL_cons, okD_str, okL_int, eqD_int, eqD_bl, eqD_str, eqD_tup, eqD_lst, eqL_cons, eqL_nil, eqL_cn, eqL_nc, eqL_int, Bool.and_eq_true, Bool.or_eq_true, Bool.not_eq_true', Bool.and_false, Bool.false_and, Bool.or_false, Bool.false_or, Bool.or_true, Bool.true_or, Bool.and_true, Bool.true_and, Bool.and_self, sp_check_fit g1 g2 g3 g4 g5]
  unfold B_unseen_one_2
  simp only [wSeq, wAsg, wOwn, wF, wLc, wSkip, wBrk, wCnt, wRet, wRetF, wRetN, wDrop, wIfS, wPar, wFor, wWh, wV, wApp, wExt, wSetIx, wAug, wVal, wLook, wC, wOp, wTst, wChain, wAnd, wOr, wNot, wAndV, wOrV, wNotV, wIf, wNil, wCons, wTup, wLst, wCall, wCB, wIsT, wiR1, wiR2, wiSq, wiEn, wiZip, gN, gT1, gT2, gT3, gT4, gT5, gT6, gT7, wYes, gAdd, DV.gSub, gMul, gMod, gDiv, gPow, gLt, gLe, gGt, gGe, gCmp, gEq, gNe, gIs, gIsN, isNon, gIn, gNotIn, gIx, gSlc, wSlc, wNoP, wPart, gLen, gAbs, gInt, gMin2, gMax2, gAll, gAny, gSum, gTuple, wNeg, wRev, itemsOf, D.isTy, D.isHand, Sl.toD, big_0, big_1, big_2, big_3, big_4, big_5, big_6, big_7, big_8, big_9, big_10, big_11, big_12, draw_iff, own_ex, val_ex, wipeE, restE, Sl.keep, Option.getD_some, get_z, get_s, set_z, set_s, List.length_cons, List.length_nil, atI_0, atI_1, atI_2, atI_3, atI_4, ixN_5_0, ixN_5_1, ixN_5_2, ixN_5_3, ixN_5_4, D.bl.injEq, D.int.injEq, D.lst.injEq, D.tup.injEq, D.str.injEq, Sl.own.injEq, Sl.val.injEq, Option.some.injEq, exists_eq_left', exists_eq_left, exists_eq', exists_eq, or_true, true_or, or_false, false_or, CMul, CPow, natAbs_10, natAbs_2, Int.cast_ofNat_Int, Nat.reducePow, exists_and_left, exists_const, and_assoc, true_and, and_true, and_self, false_and, and_false, if_true, if_false, ite_true, ite_false, reduceCtorEq, decide_true, decide_false, decide_eq_true_eq, decide_eq_false_iff_not, Bool.not_true, Bool.not_false, Bool.false_eq_true, List.replicate_zero, List.replicate_succ, List.map_cons, List.map_nil, List.nil_append, List.cons_append, Nat.reduceSub, Nat.reduceAdd, Nat.reduceLeDiff, Nat.reduceLT, Int.reduceLT, Int.reduceLE, Int.reduceAdd, Int.reduceSub, Int.reduceMul, Int.reduceNeg, Int.reduceMod, Int.reduceDiv, Int.reducePow, Int.reduceToNat, okD_int, okD_bl, okD_lst, okD_tup, okD_non, okL_nil, okL_cons, okD_str, okL_int, eqD_int, eqD_bl, eqD_str, eqD_tup, eqD_lst, eqL_cons, eqL_nil, eqL_cn, eqL_nc, eqL_int, Bool.and_eq_true, Bool.or_eq_true, Bool.not_eq_true', Bool.and_false, Bool.false_and, Bool.or_false, Bool.false_or, Bool.or_true, Bool.true_or, Bool.and_true, Bool.true_and, Bool.and_self, sp_check_number h1 h2]
  unfold B_unseen_one_3
  (try simp only [wSeq, wAsg, wOwn, wF, wLc, wSkip, wBrk, wCnt, wRet, wRetF, wRetN, wDrop, wIfS, wPar, wFor, wWh, wV, wApp, wExt, wSetIx, wAug, wVal, wLook, wC, wOp, wTst, wChain, wAnd, wOr, wNot, wAndV, wOrV, wNotV, wIf, wNil, wCons, wTup, wLst, wCall, wCB, wIsT, wiR1, wiR2, wiSq, wiEn, wiZip, gN, gT1, gT2, gT3, gT4, gT5, gT6, gT7, wYes, gAdd, DV.gSub, gMul, gMod, gDiv, gPow, gLt, gLe, gGt, gGe, gCmp, gEq, gNe, gIs, gIsN, isNon, gIn, gNotIn, gIx, gSlc, wSlc, wNoP, wPart, gLen, gAbs, gInt, gMin2, gMax2, gAll, gAny, gSum, gTuple, wNeg, wRev, itemsOf, D.isTy, D.isHand, Sl.toD, big_0, big_1, big_2, big_3, big_4, big_5, big_6, big_7, big_8, big_9, big_10, big_11, big_12, draw_iff, own_ex, val_ex, wipeE, restE, Sl.keep, Option.getD_some, get_z, get_s, set_z, set_s, List.length_cons, List.length_nil, atI_0, atI_1, atI_2, atI_3, atI_4, ixN_5_0, ixN_5_1, ixN_5_2, ixN_5_3, ixN_5_4, D.bl.injEq, D.int.injEq, D.lst.injEq, D.tup.injEq, D.str.injEq, Sl.own.injEq, Sl.val.injEq, Option.some.injEq, exists_eq_left', exists_eq_left, exists_eq', exists_eq, or_true, true_or, or_false, false_or, CMul, CPow, natAbs_10, natAbs_2, Int.cast_ofNat_Int, Nat.reducePow, exists_and_left, exists_const, and_assoc, true_and, and_true, and_self, false_and, and_false, if_true, if_false, ite_true, ite_false, reduceCtorEq, decide_true, decide_false, decide_eq_true_eq, decide_eq_false_iff_not, Bool.not_true, Bool.not_false, Bool.false_eq_true, List.replicate_zero, List.replicate_succ, List.map_cons, List.map_nil, List.nil_append, List.cons_append, Nat.reduceSub, Nat.reduceAdd, Nat.reduceLeDiff, Nat.reduceLT, Int.reduceLT, Int.reduceLE, Int.reduceAdd, Int.reduceSub, Int.reduceMul, Int.reduceNeg, Int.reduceMod, Int.reduceDiv, Int.reducePow, Int.reduceToNat, okD_int, okD_bl, okD_lst, okD_tup, okD_non, okL_nil, okL_cons, okD_str, okL_int, eqD_int, eqD_bl, eqD_str, eqD_tup, eqD_lst, eqL_cons, eqL_nil, eqL_cn, eqL_nc, eqL_int, Bool.and_eq_true, Bool.or_eq_true, Bool.not_eq_true', Bool.and_false, Bool.false_and, Bool.or_false, Bool.false_or, Bool.or_true, Bool.true_or, Bool.and_true, Bool.true_and, Bool.and_self])
  refine ⟨by omega, by omega, ?_⟩
  rw [rangeD_map]
  unfold plc at h
  refine for_search (fPl (cOne b q 1) b) (fun env => ∃ s t, env = [.val (.int b), .val (.int q), .val (.int n), s, t]) (fun d hd e => ?_) (fun hd e he => ?_) (fun k hk env he P' q1 q2 => ?_) ⟨_, _, rfl⟩
  · rw [hd] at h; exact h
  · rw [hd] at h
    obtain ⟨s, t, rfl⟩ := he
    unfold B_unseen_one_7
    (try simp only [wSeq, wAsg, wOwn, wF, wLc, wSkip, wBrk, wCnt, wRet, wRetF, wRetN, wDrop, wIfS, wPar, wFor, wWh, wV, wApp, wExt, wSetIx, wAug, wVal, wLook, wC, wOp, wTst, wChain, wAnd, wOr, wNot, wAndV, wOrV, wNotV, wIf, wNil, wCons, wTup, wLst, wCall, wCB, wIsT, wiR1, wiR2, wiSq, wiEn, wiZip, gN, gT1, gT2, gT3, gT4, gT5, gT6, gT7, wYes, gAdd, DV.gSub, gMul, gMod, gDiv, gPow, gLt, gLe, gGt, gGe, gCmp, gEq, gNe, gIs, gIsN, isNon, gIn, gNotIn, gIx, gSlc, wSlc, wNoP, wPart, gLen, gAbs, gInt, gMin2, gMax2, gAll, gAny, gSum, gTuple, wNeg, wRev, itemsOf, D.isTy, D.isHand, Sl.toD, big_0, big_1, big_2, big_3, big_4, big_5, big_6, big_7, big_8, big_9, big_10, big_11, big_12, draw_iff, own_ex, val_ex, wipeE, restE, Sl.keep, Option.getD_some, get_z, get_s, set_z, set_s, List.length_cons, List.length_nil, atI_0, atI_1, atI_2, atI_3, atI_4, ixN_5_0, ixN_5_1, ixN_5_2, ixN_5_3, ixN_5_4, D.bl.injEq, D.int.injEq, D.lst.injEq, D.tup.injEq, D.str.injEq, Sl.own.injEq, Sl.val.injEq, Option.some.injEq, exists_eq_left', exists_eq_left, exists_eq', exists_eq, or_true, true_or, or_false, false_or, CMul, CPow, natAbs_10, natAbs_2, Int.cast_ofNat_Int, Nat.reducePow, exists_and_left, exists_const, and_assoc, true_and, and_true, and_self, false_and, and_false, if_true, if_false, ite_true, ite_false, reduceCtorEq, decide_true, decide_false, decide_eq_true_eq, decide_eq_false_iff_not, Bool.not_true, Bool.not_false, Bool.false_eq_true, List.replicate_zero, List.replicate_succ, List.map_cons, List.map_nil, List.nil_append, List.cons_append, Nat.reduceSub, Nat.reduceAdd, Nat.reduceLeDiff, Nat.reduceLT, Int.reduceLT, Int.reduceLE, Int.reduceAdd, Int.reduceSub, Int.reduceMul, Int.reduceNeg, Int.reduceMod, Int.reduceDiv, Int.reducePow, Int.reduceToNat, okD_int, okD_bl, okD_lst, okD_tup, okD_non, okL_nil, okL_cons, okD_str, okL_int, eqD_int, eqD_bl, eqD_str, eqD_tup, eqD_lst, eqL_cons, eqL_nil, eqL_cn, eqL_nc, eqL_int, Bool.and_eq_true, Bool.or_eq_true, Bool.not_eq_true', Bool.and_false, Bool.false_and, Bool.or_false, Bool.false_or, Bool.or_true, Bool.true_or, Bool.and_true, Bool.true_and, Bool.and_self])
    exact h
  · obtain ⟨s, t, rfl⟩ := he
    rw [mem_rangeI] at hk
    unfold B_unseen_one_4
    (try simp only [wSeq, wAsg, wOwn, wF, wLc, wSkip, wBrk, wCnt, wRet, wRetF, wRetN, wDrop, wIfS, wPar, wFor, wWh, wV, wApp, wExt, wSetIx, wAug, wVal, wLook, wC, wOp, wTst, wChain, wAnd, wOr, wNot, wAndV, wOrV, wNotV, wIf, wNil, wCons, wTup, wLst, wCall, wCB, wIsT, wiR1, wiR2, wiSq, wiEn, wiZip, gN, gT1, gT2, gT3, gT4, gT5, gT6, gT7, wYes, gAdd, DV.gSub, gMul, gMod, gDiv, gPow, gLt, gLe, gGt, gGe, gCmp, gEq, gNe, gIs, gIsN, isNon, gIn, gNotIn, gIx, gSlc, wSlc, wNoP, wPart, gLen, gAbs, gInt, gMin2, gMax2, gAll, gAny, gSum, gTuple, wNeg, wRev, itemsOf, D.isTy, D.isHand, Sl.toD, big_0, big_1, big_2, big_3, big_4, big_5, big_6, big_7, big_8, big_9, big_10, big_11, big_12, draw_iff, own_ex, val_ex, wipeE, restE, Sl.keep, Option.getD_some, get_z, get_s, set_z, set_s, List.length_cons, List.length_nil, atI_0, atI_1, atI_2, atI_3, atI_4, ixN_5_0, ixN_5_1, ixN_5_2, ixN_5_3, ixN_5_4, D.bl.injEq, D.int.injEq, D.lst.injEq, D.tup.injEq, D.str.injEq, Sl.own.injEq, Sl.val.injEq, Option.some.injEq, exists_eq_left', exists_eq_left, exists_eq', exists_eq, or_true, true_or, or_false, false_or, CMul, CPow, natAbs_10, natAbs_2, Int.cast_ofNat_Int, Nat.reducePow, exists_and_left, exists_const, and_assoc, true_and, and_true, and_self, false_and, and_false, if_true, if_false, ite_true, ite_false, reduceCtorEq, decide_true, decide_false, decide_eq_true_eq, decide_eq_false_iff_not, Bool.not_true, Bool.not_false, Bool.false_eq_true, List.replicate_zero, List.replicate_succ, List.map_cons, List.map_nil, List.nil_append, List.cons_append, Nat.reduceSub, Nat.reduceAdd, Nat.reduceLeDiff, Nat.reduceLT, Int.reduceLT, Int.reduceLE, Int.reduceAdd, Int.reduceSub, Int.reduceMul, Int.reduceNeg, Int.reduceMod, Int.reduceDiv, Int.reducePow, Int.reduceToNat, okD_int, okD_bl, okD_lst, okD_tup, okD_non, okL_nil, okL_cons, okD_str, okL_int, eqD_int, eqD_bl, eqD_str, eqD_tup, eqD_lst, eqL_cons, eqL_nil, eqL_cn, eqL_nc, eqL_int, Bool.and_eq_true, Bool.or_eq_true, Bool.not_eq_true', Bool.and_false, Bool.false_and, Bool.or_false, Bool.false_or, Bool.or_true, Bool.true_or, Bool.and_true, Bool.true_and, Bool.and_self])
    refine ⟨by omega, by omega, ?_⟩
    rw [rangeD_map]
    refine for_search (fGp (cOne b q 1) k) (fun env => ∃ t, env = [.val (.int b), .val (.int q), .val (.int n), .val (.int k), t]) q1 (fun hd e he => q2 hd e ?_) (fun y hy env he P2 q1 q2 => ?_) ⟨_, rfl⟩
    · obtain ⟨t, rfl⟩ := he; exact ⟨_, _, rfl⟩
    · obtain ⟨t, rfl⟩ := he
      rw [mem_rangeI] at hy
      unfold B_unseen_one_5
      (try simp only [wSeq, wAsg, wOwn, wF, wLc, wSkip, wBrk, wCnt, wRet, wRetF, wRetN, wDrop, wIfS, wPar, wFor, wWh, wV, wApp, wExt, wSetIx, wAug, wVal, wLook, wC, wOp, wTst, wChain, wAnd, wOr, wNot, wAndV, wOrV, wNotV, wIf, wNil, wCons, wTup, wLst, wCall, wCB, wIsT, wiR1, wiR2, wiSq, wiEn, wiZip, gN, gT1, gT2, gT3, gT4, gT5, gT6, gT7, wYes, gAdd, DV.gSub, gMul, gMod, gDiv, gPow, gLt, gLe, gGt, gGe, gCmp, gEq, gNe, gIs, gIsN, isNon, gIn, gNotIn, gIx, gSlc, wSlc, wNoP, wPart, gLen, gAbs, gInt, gMin2, gMax2, gAll, gAny, gSum, gTuple, wNeg, wRev, itemsOf, D.isTy, D.isHand, Sl.toD, big_0, big_1, big_2, big_3, big_4, big_5, big_6, big_7, big_8, big_9, big_10, big_11, big_12, draw_iff, own_ex, val_ex, wipeE, restE, Sl.keep, Option.getD_some, get_z, get_s, set_z, set_s, List.length_cons, List.length_nil, atI_0, atI_1, atI_2, atI_3, atI_4, ixN_5_0, ixN_5_1, ixN_5_2, ixN_5_3, ixN_5_4, D.bl.injEq, D.int.injEq, D.lst.injEq, D.tup.injEq, D.str.injEq, Sl.own.injEq, Sl.val.injEq, Option.some.injEq, exists_eq_left', exists_eq_left, exists_eq', exists_eq, or_true, true_or, or_false, false_or, CMul, CPow, natAbs_10, natAbs_2, Int.cast_ofNat_Int, Nat.reducePow, exists_and_left, exists_const, and_assoc, true_and, and_true, and_self, false_and, and_false, if_true, if_false, ite_true, ite_false, reduceCtorEq, decide_true, decide_false, decide_eq_true_eq, decide_eq_false_iff_not, Bool.not_true, Bool.not_false, Bool.false_eq_true, List.replicate_zero, List.replicate_succ, List.map_cons, List.map_nil, List.nil_append, List.cons_append, Nat.reduceSub, Nat.reduceAdd, Nat.reduceLeDiff, Nat.reduceLT, Int.reduceLT, Int.reduceLE, Int.reduceAdd, Int.reduceSub, Int.reduceMul, Int.reduceNeg, Int.reduceMod, Int.reduceDiv, Int.reducePow, Int.reduceToNat, okD_int, okD_bl, okD_lst, okD_tup, okD_non, okL_nil, okL_cons, okD_str, okL_int, eqD_int, eqD_bl, eqD_str, eqD_tup, eqD_lst, eqL_cons, eqL_nil, eqL_cn, eqL_nc, eqL_int, Bool.and_eq_true, Bool.or_eq_true, Bool.not_eq_true', Bool.and_false, Bool.false_and, Bool.or_false, Bool.false_or, Bool.or_true, Bool.true_or, Bool.and_true, Bool.true_and, Bool.and_self])
      refine sp_power_rest (by omega) (by omega) (by omega) ?_
      simp only [wSeq, wAsg, wOwn, wF, wLc, wSkip, wBrk, wCnt, wRet, wRetF, wRetN, wDrop, wIfS, wPar, wFor, wWh, wV, wApp, wExt, wSetIx, wAug, wVal, wLook, wC, wOp, wTst, wChain, wAnd, wOr, wNot, wAndV, wOrV, wNotV, wIf, wNil, wCons, wTup, wLst, wCall, wCB, wIsT, wiR1, wiR2, wiSq, wiEn, wiZip, gN, gT1, gT2, gT3, gT4, gT5, gT6, gT7, wYes, gAdd, DV.gSub, gMul, gMod, gDiv, gPow, gLt, gLe, gGt, gGe, gCmp, gEq, gNe, gIs, gIsN, isNon, gIn, gNotIn, gIx, gSlc, wSlc, wNoP, wPart, gLen, gAbs, gInt, gMin2, gMax2, gAll, gAny, gSum, gTuple, wNeg, wRev, itemsOf, D.isTy, D.isHand, Sl.toD, big_0, big_1, big_2, big_3, big_4, big_5, big_6, big_7, big_8, big_9, big_10, big_11, big_12, draw_iff, own_ex, val_ex, wipeE, restE, Sl.keep, Option.getD_some, get_z, get_s, set_z, set_s, List.length_cons, List.length_nil, atI_0, atI_1, atI_2, atI_3, atI_4, ixN_5_0, ixN_5_1, ixN_5_2, ixN_5_3, ixN_5_4, D.bl.injEq, D.int.injEq, D.lst.injEq, D.tup.injEq, D.str.injEq, Sl.own.injEq, Sl.val.injEq, Option.some.injEq, exists_eq_left', exists_eq_left, exists_eq', exists_eq, or_true, true_or, or_false, false_or, CMul, CPow, natAbs_10, natAbs_2, Int.cast_ofNat_Int, Nat.reducePow, exists_and_left, exists_const, and_assoc, true_and, and_true, and_self, false_and, and_false, if_true, if_false, ite_true, ite_false, reduceCtorEq, decide_true, decide_false, decide_eq_true_eq, decide_eq_false_iff_not, Bool.not_true, Bool.not_false, Bool.false_eq_true, List.replicate_zero, List.replicate_succ, List.map_cons, List.map_nil, List.nil_append, List.cons_append, Nat.reduceSub, Nat.reduceAdd, Nat.reduceLeDiff, Nat.reduceLT, Int.reduceLT, Int.reduceLE, Int.reduceAdd, Int.reduceSub, Int.reduceMul, Int.reduceNeg, Int.reduceMod, Int.reduceDiv, Int.reducePow, Int.reduceToNat, okD_int, okD_bl, okD_lst, okD_tup, okD_non, okL_nil, okL_cons, okD_str, okL_int, eqD_int, eqD_bl, eqD_str, eqD_tup, eqD_lst, eqL_cons, eqL_nil, eqL_cn, eqL_nc, eqL_int, Bool.and_eq_true, Bool.or_eq_true, Bool.not_eq_true', Bool.and_false, Bool.false_and, Bool.or_false, Bool.false_or, Bool.or_true, Bool.true_or, Bool.and_true, Bool.true_and, Bool.and_self, eqD_int]
      refine ⟨.inl ⟨by omega, by omega⟩, by omega, ?_⟩
      have e : (y * (b ^ k.toNat % q) % q = 0) = (cOne b q 1 k y = true) := by unfold cOne; rw [emod_mul_r, Int.mul_one]; simp
      simp only [e]
      split
      · rename_i hc
        exact q1 _ (if_pos hc) _
      · rename_i hc
        exact q2 (if_neg hc) _ ⟨_, rfl⟩
end

theorem num_app (b : Int) : ∀ (z : Int) (xs ys : List Int), num b z (xs ++ ys) = num b (num b z xs) ys
  | _, [], _ => rfl
  | z, x :: xs, ys => by rw [List.cons_append, num, num, num_app]
theorem num_add (b : Int) : ∀ (z : Int) (xs : List Int), num b z xs = z * b ^ xs.length + num b 0 xs
  | z, [] => by simp [num]
  | z, x :: xs => by
    rw [num, num, num_add b (z * b + x) xs, num_add b (0 * b + x) xs, List.length_cons, Int.pow_succ, Int.zero_mul, Int.zero_add, Int.add_mul]
    rw [Int.mul_assoc, Int.mul_comm b, Int.add_assoc]
theorem emod_eq_sub {a b q : Int} : a % q = b % q ↔ (a - b) % q = 0 := Int.emod_eq_emod_iff_emod_sub_eq_zero
/-- a word with another middle -/
theorem num_mid (b : Int) (xs ms ns ys : List Int) (hl : ms.length = ns.length) : num b 0 (xs ++ ms ++ ys) - num b 0 (xs ++ ns ++ ys) = (num b 0 ms - num b 0 ns) * b ^ ys.length := by
  rw [num_app, num_app, num_app, num_app, num_add b _ ys, num_add b (num b (num b 0 xs) ns) ys, num_add b _ ms, num_add b _ ns, hl]
  generalize num b 0 xs = p
  generalize num b 0 ys = r
  generalize num b 0 ms = s
  generalize num b 0 ns = t
  generalize b ^ ys.length = u
  generalize b ^ ns.length = v
  rw [Int.add_mul, Int.add_mul, Int.sub_mul]
  omega
/-- what the pieces of a word give -/
theorem take_drop3 {α : Type} (ws : List α) (k m : Nat) (h1 : k ≤ m) (h2 : m ≤ ws.length) : ws.take k ++ (ws.drop k).take (m - k) ++ ws.drop m = ws := by
  have e : ws.drop m = (ws.drop k).drop (m - k) := by rw [List.drop_drop]; congr 1; omega
  rw [e, List.append_assoc, List.take_append_drop, List.take_append_drop]
/-- other words differ by the number -/
theorem mid_law {b q : Int} {ws xs ms ns ys : List Int} (e : ws = xs ++ ms ++ ys) (hl : ns.length = ms.length) : num b 0 (xs ++ ns ++ ys) % q = num b 0 ws % q ↔ (num b 0 ns - num b 0 ms) * b ^ ys.length % q = 0 := by
  subst e
  rw [emod_eq_sub, num_mid b xs ns ms ys hl]
theorem cI_to {ws : List Int} {a : Nat} : DV.cutD (ws.map D.int) none (some (a : Int)) = (ws.take a).map D.int := by
  rw [cut_to (k := a) rfl, List.map_take]
theorem cI_from {ws : List Int} {a : Nat} {i : Int} (h : i = a) : DV.cutD (ws.map D.int) (some i) none = (ws.drop a).map D.int := by
  rw [cut_from (k := a) h, List.map_drop]
theorem cI_mid {ws : List Int} {a c : Nat} {i : Int} (h : i = c) : DV.cutD (ws.map D.int) (some (a : Int)) (some i) = ((ws.drop a).take (c - a)).map D.int := by
  rw [cut_mid (k := a) (m := c) rfl h, List.map_take, List.map_drop]
theorem map3 {xs ys zs : List Int} : List.map D.int xs ++ List.map D.int ys ++ List.map D.int zs = (xs ++ ys ++ zs).map D.int := by
  rw [List.map_append, List.map_append]

section
variable {Q : D → Prop} {E : Er → Prop}
theorem sp_common {a b : Nat} (h : Q (.int (Nat.gcd a b : Nat))) : T_common [.int a, .int b] Q E := by
  unfold T_common wFn B_common
  have n1 : ¬ ((a : Int) < 0) := by omega
  have n2 : ¬ ((b : Int) < 0) := by omega
  simp only [wSeq, wAsg, wOwn, wF, wLc, wSkip, wBrk, wCnt, wRet, wRetF, wRetN, wDrop, wIfS, wPar, wFor, wWh, wV, wApp, wExt, wSetIx, wAug, wVal, wLook, wC, wOp, wTst, wChain, wAnd, wOr, wNot, wAndV, wOrV, wNotV, wIf, wNil, wCons, wTup, wLst, wCall, wCB, wIsT, wiR1, wiR2, wiSq, wiEn, wiZip, gN, gT1, gT2, gT3, gT4, gT5, gT6, gT7, wYes, gAdd, DV.gSub, gMul, gMod, gDiv, gPow, gLt, gLe, gGt, gGe, gCmp, gEq, gNe, gIs, gIsN, isNon, gIn, gNotIn, gIx, gSlc, wSlc, wNoP, wPart, gLen, gAbs, gInt, gMin2, gMax2, gAll, gAny, gSum, gTuple, wNeg, wRev, itemsOf, D.isTy, D.isHand, Sl.toD, big_0, big_1, big_2, big_3, big_4, big_5, big_6, big_7, big_8, big_9, big_10, big_11, big_12, draw_iff, own_ex, val_ex, wipeE, restE, Sl.keep, Option.getD_some, get_z, get_s, set_z, set_s, List.length_cons, List.length_nil, atI_0, atI_1, atI_2, atI_3, atI_4, ixN_5_0, ixN_5_1, ixN_5_2, ixN_5_3, ixN_5_4, D.bl.injEq, D.int.injEq, D.lst.injEq, D.tup.injEq, D.str.injEq, Sl.own.injEq, Sl.val.injEq, Option.some.injEq, exists_eq_left', exists_eq_left, exists_eq', exists_eq, or_true, true_or, or_false, false_or, CMul, CPow, natAbs_10, natAbs_2, Int.cast_ofNat_Int, Nat.reducePow, exists_and_left, exists_const, and_assoc, true_and, and_true, and_self, false_and, and_false, if_true, if_false, ite_true, ite_false, reduceCtorEq, decide_true, decide_false, decide_eq_true_eq, decide_eq_false_iff_not, Bool.not_true, Bool.not_false, Bool.false_eq_true, List.replicate_zero, List.replicate_succ, List.map_cons, List.map_nil, List.nil_append, List.cons_append, Nat.reduceSub, Nat.reduceAdd, Nat.reduceLeDiff, Nat.reduceLT, Int.reduceLT, Int.reduceLE, Int.reduceAdd, Int.reduceSub, Int.reduceMul, Int.reduceNeg, Int.reduceMod, Int.reduceDiv, Int.reducePow, Int.reduceToNat, okD_int, okD_bl, okD_lst, okD_tup, okD_non, okL_nil, okL_cons, okD_str, okL_int, eqD_int, eqD_bl, eqD_str, eqD_tup, eqD_lst, eqL_cons, eqL_nil, eqL_cn, eqL_nc, eqL_int, Bool.and_eq_true, Bool.or_eq_true, Bool.not_eq_true', Bool.and_false, Bool.false_and, Bool.or_false, Bool.false_or, Bool.or_true, Bool.true_or, Bool.and_true, Bool.true_and, Bool.and_self, n1, n2]
  unfold B_common_2
  (try simp only [wSeq, wAsg, wOwn, wF, wLc, wSkip, wBrk, wCnt, wRet, wRetF, wRetN, wDrop, wIfS, wPar, wFor, wWh, wV, wApp, wExt, wSetIx, wAug, wVal, wLook, wC, wOp, wTst, wChain, wAnd, wOr, wNot, wAndV, wOrV, wNotV, wIf, wNil, wCons, wTup, wLst, wCall, wCB, wIsT, wiR1, wiR2, wiSq, wiEn, wiZip, gN, gT1, gT2, gT3, gT4, gT5, gT6, gT7, wYes, gAdd, DV.gSub, gMul, gMod, gDiv, gPow, gLt, gLe, gGt, gGe, gCmp, gEq, gNe, gIs, gIsN, isNon, gIn, gNotIn, gIx, gSlc, wSlc, wNoP, wPart, gLen, gAbs, gInt, gMin2, gMax2, gAll, gAny, gSum, gTuple, wNeg, wRev, itemsOf, D.isTy, D.isHand, Sl.toD, big_0, big_1, big_2, big_3, big_4, big_5, big_6, big_7, big_8, big_9, big_10, big_11, big_12, draw_iff, own_ex, val_ex, wipeE, restE, Sl.keep, Option.getD_some, get_z, get_s, set_z, set_s, List.length_cons, List.length_nil, atI_0, atI_1, atI_2, atI_3, atI_4, ixN_5_0, ixN_5_1, ixN_5_2, ixN_5_3, ixN_5_4, D.bl.injEq, D.int.injEq, D.lst.injEq, D.tup.injEq, D.str.injEq, Sl.own.injEq, Sl.val.injEq, Option.some.injEq, exists_eq_left', exists_eq_left, exists_eq', exists_eq, or_true, true_or, or_false, false_or, CMul, CPow, natAbs_10, natAbs_2, Int.cast_ofNat_Int, Nat.reducePow, exists_and_left, exists_const, and_assoc, true_and, and_true, and_self, false_and, and_false, if_true, if_false, ite_true, ite_false, reduceCtorEq, decide_true, decide_false, decide_eq_true_eq, decide_eq_false_iff_not, Bool.not_true, Bool.not_false, Bool.false_eq_true, List.replicate_zero, List.replicate_succ, List.map_cons, List.map_nil, List.nil_append, List.cons_append, Nat.reduceSub, Nat.reduceAdd, Nat.reduceLeDiff, Nat.reduceLT, Int.reduceLT, Int.reduceLE, Int.reduceAdd, Int.reduceSub, Int.reduceMul, Int.reduceNeg, Int.reduceMod, Int.reduceDiv, Int.reducePow, Int.reduceToNat, okD_int, okD_bl, okD_lst, okD_tup, okD_non, okL_nil, okL_cons, okD_str, okL_int, eqD_int, eqD_bl, eqD_str, eqD_tup, eqD_lst, eqL_cons, eqL_nil, eqL_cn, eqL_nc, eqL_int, Bool.and_eq_true, Bool.or_eq_true, Bool.not_eq_true', Bool.and_false, Bool.false_and, Bool.or_false, Bool.false_or, Bool.or_true, Bool.true_or, Bool.and_true, Bool.true_and, Bool.and_self])
  refine wh_ind (fun m env => ∃ x y : Nat, m = y ∧ Nat.gcd x y = Nat.gcd a b ∧ env = [.val (.int x), .val (.int y)]) (fun m env hI nx hn => ?_) ⟨a, b, rfl, rfl, rfl⟩
  obtain ⟨x, y, rfl, hg, rfl⟩ := hI
  (try simp only [wSeq, wAsg, wOwn, wF, wLc, wSkip, wBrk, wCnt, wRet, wRetF, wRetN, wDrop, wIfS, wPar, wFor, wWh, wV, wApp, wExt, wSetIx, wAug, wVal, wLook, wC, wOp, wTst, wChain, wAnd, wOr, wNot, wAndV, wOrV, wNotV, wIf, wNil, wCons, wTup, wLst, wCall, wCB, wIsT, wiR1, wiR2, wiSq, wiEn, wiZip, gN, gT1, gT2, gT3, gT4, gT5, gT6, gT7, wYes, gAdd, DV.gSub, gMul, gMod, gDiv, gPow, gLt, gLe, gGt, gGe, gCmp, gEq, gNe, gIs, gIsN, isNon, gIn, gNotIn, gIx, gSlc, wSlc, wNoP, wPart, gLen, gAbs, gInt, gMin2, gMax2, gAll, gAny, gSum, gTuple, wNeg, wRev, itemsOf, D.isTy, D.isHand, Sl.toD, big_0, big_1, big_2, big_3, big_4, big_5, big_6, big_7, big_8, big_9, big_10, big_11, big_12, draw_iff, own_ex, val_ex, wipeE, restE, Sl.keep, Option.getD_some, get_z, get_s, set_z, set_s, List.length_cons, List.length_nil, atI_0, atI_1, atI_2, atI_3, atI_4, ixN_5_0, ixN_5_1, ixN_5_2, ixN_5_3, ixN_5_4, D.bl.injEq, D.int.injEq, D.lst.injEq, D.tup.injEq, D.str.injEq, Sl.own.injEq, Sl.val.injEq, Option.some.injEq, exists_eq_left', exists_eq_left, exists_eq', exists_eq, or_true, true_or, or_false, false_or, CMul, CPow, natAbs_10, natAbs_2, Int.cast_ofNat_Int, Nat.reducePow, exists_and_left, exists_const, and_assoc, true_and, and_true, and_self, false_and, and_false, if_true, if_false, ite_true, ite_false, reduceCtorEq, decide_true, decide_false, decide_eq_true_eq, decide_eq_false_iff_not, Bool.not_true, Bool.not_false, Bool.false_eq_true, List.replicate_zero, List.replicate_succ, List.map_cons, List.map_nil, List.nil_append, List.cons_append, Nat.reduceSub, Nat.reduceAdd, Nat.reduceLeDiff, Nat.reduceLT, Int.reduceLT, Int.reduceLE, Int.reduceAdd, Int.reduceSub, Int.reduceMul, Int.reduceNeg, Int.reduceMod, Int.reduceDiv, Int.reducePow, Int.reduceToNat, okD_int, okD_bl, okD_lst, okD_tup, okD_non, okL_nil, okL_cons, okD_str, okL_int, eqD_int, eqD_bl, eqD_str, eqD_tup, eqD_lst, eqL_cons, eqL_nil, eqL_cn, eqL_nc, eqL_int, Bool.and_eq_true, Bool.or_eq_true, Bool.not_eq_true', Bool.and_false, Bool.false_and, Bool.or_false, Bool.false_or, Bool.or_true, Bool.true_or, Bool.and_true, Bool.true_and, Bool.and_self])
  by_cases hy : m = 0
  · subst hy
    simp only [wSeq, wAsg, wOwn, wF, wLc, wSkip, wBrk, wCnt, wRet, wRetF, wRetN, wDrop, wIfS, wPar, wFor, wWh, wV, wApp, wExt, wSetIx, wAug, wVal, wLook, wC, wOp, wTst, wChain, wAnd, wOr, wNot, wAndV, wOrV, wNotV, wIf, wNil, wCons, wTup, wLst, wCall, wCB, wIsT, wiR1, wiR2, wiSq, wiEn, wiZip, gN, gT1, gT2, gT3, gT4, gT5, gT6, gT7, wYes, gAdd, DV.gSub, gMul, gMod, gDiv, gPow, gLt, gLe, gGt, gGe, gCmp, gEq, gNe, gIs, gIsN, isNon, gIn, gNotIn, gIx, gSlc, wSlc, wNoP, wPart, gLen, gAbs, gInt, gMin2, gMax2, gAll, gAny, gSum, gTuple, wNeg, wRev, itemsOf, D.isTy, D.isHand, Sl.toD, big_0, big_1, big_2, big_3, big_4, big_5, big_6, big_7, big_8, big_9, big_10, big_11, big_12, draw_iff, own_ex, val_ex, wipeE, restE, Sl.keep, Option.getD_some, get_z, get_s, set_z, set_s, List.length_cons, List.length_nil, atI_0, atI_1, atI_2, atI_3, atI_4, ixN_5_0, ixN_5_1, ixN_5_2, ixN_5_3, ixN_5_4, D.bl.injEq, D.int.injEq, D.lst.injEq, D.tup.injEq, D.str.injEq, Sl.own.injEq, Sl.val.injEq, Option.some.injEq, exists_eq_left', exists_eq_left, exists_eq', exists_eq, or_true, true_or, or_false, false_or, CMul, CPow, natAbs_10, natAbs_2, Int.cast_ofNat_Int, Nat.reducePow, exists_and_left, exists_const, and_assoc, true_and, and_true, and_self, false_and, and_false, if_true, if_false, ite_true, ite_false, reduceCtorEq, decide_true, decide_false, decide_eq_true_eq, decide_eq_false_iff_not, Bool.not_true, Bool.not_false, Bool.false_eq_true, List.replicate_zero, List.replicate_succ, List.map_cons, List.map_nil, List.nil_append, List.cons_append, Nat.reduceSub, Nat.reduceAdd, Nat.reduceLeDiff, Nat.reduceLT, Int.reduceLT, Int.reduceLE, Int.reduceAdd, Int.reduceSub, Int.reduceMul, Int.reduceNeg, Int.reduceMod, Int.reduceDiv, Int.reducePow, Int.reduceToNat, okD_int, okD_bl, okD_lst, okD_tup, okD_non, okL_nil, okL_cons, okD_str, okL_int, eqD_int, eqD_bl, eqD_str, eqD_tup, eqD_lst, eqL_cons, eqL_nil, eqL_cn, eqL_nc, eqL_int, Bool.and_eq_true, Bool.or_eq_true, Bool.not_eq_true', Bool.and_false, Bool.false_and, Bool.or_false, Bool.false_or, Bool.or_true, Bool.true_or, Bool.and_true, Bool.true_and, Bool.and_self, Int.natCast_zero]
    unfold B_common_4
    (try simp only [wSeq, wAsg, wOwn, wF, wLc, wSkip, wBrk, wCnt, wRet, wRetF, wRetN, wDrop, wIfS, wPar, wFor, wWh, wV, wApp, wExt, wSetIx, wAug, wVal, wLook, wC, wOp, wTst, wChain, wAnd, wOr, wNot, wAndV, wOrV, wNotV, wIf, wNil, wCons, wTup, wLst, wCall, wCB, wIsT, wiR1, wiR2, wiSq, wiEn, wiZip, gN, gT1, gT2, gT3, gT4, gT5, gT6, gT7, wYes, gAdd, DV.gSub, gMul, gMod, gDiv, gPow, gLt, gLe, gGt, gGe, gCmp, gEq, gNe, gIs, gIsN, isNon, gIn, gNotIn, gIx, gSlc, wSlc, wNoP, wPart, gLen, gAbs, gInt, gMin2, gMax2, gAll, gAny, gSum, gTuple, wNeg, wRev, itemsOf, D.isTy, D.isHand, Sl.toD, big_0, big_1, big_2, big_3, big_4, big_5, big_6, big_7, big_8, big_9, big_10, big_11, big_12, draw_iff, own_ex, val_ex, wipeE, restE, Sl.keep, Option.getD_some, get_z, get_s, set_z, set_s, List.length_cons, List.length_nil, atI_0, atI_1, atI_2, atI_3, atI_4, ixN_5_0, ixN_5_1, ixN_5_2, ixN_5_3, ixN_5_4, D.bl.injEq, D.int.injEq, D.lst.injEq, D.tup.injEq, D.str.injEq, Sl.own.injEq, Sl.val.injEq, Option.some.injEq, exists_eq_left', exists_eq_left, exists_eq', exists_eq, or_true, true_or, or_false, false_or, CMul, CPow, natAbs_10, natAbs_2, Int.cast_ofNat_Int, Nat.reducePow, exists_and_left, exists_const, and_assoc, true_and, and_true, and_self, false_and, and_false, if_true, if_false, ite_true, ite_false, reduceCtorEq, decide_true, decide_false, decide_eq_true_eq, decide_eq_false_iff_not, Bool.not_true, Bool.not_false, Bool.false_eq_true, List.replicate_zero, List.replicate_succ, List.map_cons, List.map_nil, List.nil_append, List.cons_append, Nat.reduceSub, Nat.reduceAdd, Nat.reduceLeDiff, Nat.reduceLT, Int.reduceLT, Int.reduceLE, Int.reduceAdd, Int.reduceSub, Int.reduceMul, Int.reduceNeg, Int.reduceMod, Int.reduceDiv, Int.reducePow, Int.reduceToNat, okD_int, okD_bl, okD_lst, okD_tup, okD_non, okL_nil, okL_cons, okD_str, okL_int, eqD_int, eqD_bl, eqD_str, eqD_tup, eqD_lst, eqL_cons, eqL_nil, eqL_cn, eqL_nc, eqL_int, Bool.and_eq_true, Bool.or_eq_true, Bool.not_eq_true', Bool.and_false, Bool.false_and, Bool.or_false, Bool.false_or, Bool.or_true, Bool.true_or, Bool.and_true, Bool.true_and, Bool.and_self])
    rw [Nat.gcd_zero_right] at hg
    rw [hg]
    exact h
  · have hy2 : ¬ ((m : Int) = 0) := by omega
    simp only [wSeq, wAsg, wOwn, wF, wLc, wSkip, wBrk, wCnt, wRet, wRetF, wRetN, wDrop, wIfS, wPar, wFor, wWh, wV, wApp, wExt, wSetIx, wAug, wVal, wLook, wC, wOp, wTst, wChain, wAnd, wOr, wNot, wAndV, wOrV, wNotV, wIf, wNil, wCons, wTup, wLst, wCall, wCB, wIsT, wiR1, wiR2, wiSq, wiEn, wiZip, gN, gT1, gT2, gT3, gT4, gT5, gT6, gT7, wYes, gAdd, DV.gSub, gMul, gMod, gDiv, gPow, gLt, gLe, gGt, gGe, gCmp, gEq, gNe, gIs, gIsN, isNon, gIn, gNotIn, gIx, gSlc, wSlc, wNoP, wPart, gLen, gAbs, gInt, gMin2, gMax2, gAll, gAny, gSum, gTuple, wNeg, wRev, itemsOf, D.isTy, D.isHand, Sl.toD, big_0, big_1, big_2, big_3, big_4, big_5, big_6, big_7, big_8, big_9, big_10, big_11, big_12, draw_iff, own_ex, val_ex, wipeE, restE, Sl.keep, Option.getD_some, get_z, get_s, set_z, set_s, List.length_cons, List.length_nil, atI_0, atI_1, atI_2, atI_3, atI_4, ixN_5_0, ixN_5_1, ixN_5_2, ixN_5_3, ixN_5_4, D.bl.injEq, D.int.injEq, D.lst.injEq, D.tup.injEq, D.str.injEq, Sl.own.injEq, Sl.val.injEq, Option.some.injEq, exists_eq_left', exists_eq_left, exists_eq', exists_eq, or_true, true_or, or_false, false_or, CMul, CPow, natAbs_10, natAbs_2, Int.cast_ofNat_Int, Nat.reducePow, exists_and_left, exists_const, and_assoc, true_and, and_true, and_self, false_and, and_false, if_true, if_false, ite_true, ite_false, reduceCtorEq, decide_true, decide_false, decide_eq_true_eq, decide_eq_false_iff_not, Bool.not_true, Bool.not_false, Bool.false_eq_true, List.replicate_zero, List.replicate_succ, List.map_cons, List.map_nil, List.nil_append, List.cons_append, Nat.reduceSub, Nat.reduceAdd, Nat.reduceLeDiff, Nat.reduceLT, Int.reduceLT, Int.reduceLE, Int.reduceAdd, Int.reduceSub, Int.reduceMul, Int.reduceNeg, Int.reduceMod, Int.reduceDiv, Int.reducePow, Int.reduceToNat, okD_int, okD_bl, okD_lst, okD_tup, okD_non, okL_nil, okL_cons, okD_str, okL_int, eqD_int, eqD_bl, eqD_str, eqD_tup, eqD_lst, eqL_cons, eqL_nil, eqL_cn, eqL_nc, eqL_int, Bool.and_eq_true, Bool.or_eq_true, Bool.not_eq_true', Bool.and_false, Bool.false_and, Bool.or_false, Bool.false_or, Bool.or_true, Bool.true_or, Bool.and_true, Bool.true_and, Bool.and_self, hy2]
    refine ⟨by omega, hn (x % m) _ (Nat.mod_lt _ (by omega)) ⟨m, x % m, rfl, ?_, by rw [Int.natCast_emod]⟩⟩
    rw [← hg, Nat.gcd_comm x m, Nat.gcd_comm m (x % m)]
    exact (Nat.gcd_rec m x).symm
end

end Law

set_option Elab.async false
set_option linter.all false
set_option maxRecDepth 100000
namespace Law
open PySem PySem.Spec PyProof.Rows L2 DV
section
variable {Q : D → Prop} {E : Er → Prop}
theorem sp_power {b e : Int} (hb : 0 ≤ b ∧ b < 1000000) (he : 0 ≤ e ∧ e < 1000000) (h : Q (.int (b ^ e.toNat))) : T_power [.int b, .int e] Q E := by
  unfold T_power wFn B_power
  (try simp only [wSeq, wAsg, wOwn, wF, wLc, wSkip, wBrk, wCnt, wRet, wRetF, wRetN, wDrop, wIfS, wPar, wFor, wWh, wV, wApp, wExt, wSetIx, wAug, wVal, wLook, wC, wOp, wTst, wChain, wAnd, wOr, wNot, wAndV, wOrV, wNotV, wIf, wNil, wCons, wTup, wLst, wCall, wCB, wIsT, wiR1, wiR2, wiSq, wiEn, wiZip, gN, gT1, gT2, gT3, gT4, gT5, gT6, gT7, wYes, gAdd, DV.gSub, gMul, gMod, gDiv, gPow, gLt, gLe, gGt, gGe, gCmp, gEq, gNe, gIs, gIsN, isNon, gIn, gNotIn, gIx, gSlc, wSlc, wNoP, wPart, gLen, gAbs, gInt, gMin2, gMax2, gAll, gAny, gSum, gTuple, wNeg, wRev, itemsOf, D.isTy, D.isHand, Sl.toD, big_0, big_1, big_2, big_3, big_4, big_5, big_6, big_7, big_8, big_9, big_10, big_11, big_12, draw_iff, own_ex, val_ex, wipeE, restE, Sl.keep, Option.getD_some, get_z, get_s, set_z, set_s, List.length_cons, List.length_nil, atI_0, atI_1, atI_2, atI_3, atI_4, ixN_5_0, ixN_5_1, ixN_5_2, ixN_5_3, ixN_5_4, D.bl.injEq, D.int.injEq, D.lst.injEq, D.tup.injEq, D.str.injEq, Sl.own.injEq, Sl.val.injEq, Option.some.injEq, exists_eq_left', exists_eq_left, exists_eq', exists_eq, or_true, true_or, or_false, false_or, CMul, CPow, natAbs_10, natAbs_2, Int.cast_ofNat_Int, Nat.reducePow, exists_and_left, exists_const, and_assoc, true_and, and_true, and_self, false_and, and_false, if_true, if_false, ite_true, ite_false, reduceCtorEq, decide_true, decide_false, decide_eq_true_eq, decide_eq_false_iff_not, Bool.not_true, Bool.not_false, Bool.false_eq_true, List.replicate_zero, List.replicate_succ, List.map_cons, List.map_nil, List.nil_append, List.cons_append, Nat.reduceSub, Nat.reduceAdd, Nat.reduceLeDiff, Nat.reduceLT, Int.reduceLT, Int.reduceLE, Int.reduceAdd, Int.reduceSub, Int.reduceMul, Int.reduceNeg, Int.reduceMod, Int.reduceDiv, Int.reducePow, Int.reduceToNat, okD_int, okD_bl, okD_lst, okD_tup, okD_non, okL_nil, okL_cons, okD_str, okL_int, eqD_int, eqD_bl, eqD_str, eqD_tup, eqD_lst, eqL_cons, eqL_nil, eqL_cn, eqL_nc, eqL_int, Bool.and_eq_true, Bool.or_eq_true, Bool.not_eq_true', Bool.and_false, Bool.false_and, Bool.or_false, Bool.false_or, Bool.or_true, Bool.true_or, Bool.and_true, Bool.true_and, Bool.and_self])
  unfold B_power_2
  (try simp only [wSeq, wAsg, wOwn, wF, wLc, wSkip, wBrk, wCnt, wRet, wRetF, wRetN, wDrop, wIfS, wPar, wFor, wWh, wV, wApp, wExt, wSetIx, wAug, wVal, wLook, wC, wOp, wTst, wChain, wAnd, wOr, wNot, wAndV, wOrV, wNotV, wIf, wNil, wCons, wTup, wLst, wCall, wCB, wIsT, wiR1, wiR2, wiSq, wiEn, wiZip, gN, gT1, gT2, gT3, gT4, gT5, gT6, gT7, wYes, gAdd, DV.gSub, gMul, gMod, gDiv, gPow, gLt, gLe, gGt, gGe, gCmp, gEq, gNe, gIs, gIsN, isNon, gIn, gNotIn, gIx, gSlc, wSlc, wNoP, wPart, gLen, gAbs, gInt, gMin2, gMax2, gAll, gAny, gSum, gTuple, wNeg, wRev, itemsOf, D.isTy, D.isHand, Sl.toD, big_0, big_1, big_2, big_3, big_4, big_5, big_6, big_7, big_8, big_9, big_10, big_11, big_12, draw_iff, own_ex, val_ex, wipeE, restE, Sl.keep, Option.getD_some, get_z, get_s, set_z, set_s, List.length_cons, List.length_nil, atI_0, atI_1, atI_2, atI_3, atI_4, ixN_5_0, ixN_5_1, ixN_5_2, ixN_5_3, ixN_5_4, D.bl.injEq, D.int.injEq, D.lst.injEq, D.tup.injEq, D.str.injEq, Sl.own.injEq, Sl.val.injEq, Option.some.injEq, exists_eq_left', exists_eq_left, exists_eq', exists_eq, or_true, true_or, or_false, false_or, CMul, CPow, natAbs_10, natAbs_2, Int.cast_ofNat_Int, Nat.reducePow, exists_and_left, exists_const, and_assoc, true_and, and_true, and_self, false_and, and_false, if_true, if_false, ite_true, ite_false, reduceCtorEq, decide_true, decide_false, decide_eq_true_eq, decide_eq_false_iff_not, Bool.not_true, Bool.not_false, Bool.false_eq_true, List.replicate_zero, List.replicate_succ, List.map_cons, List.map_nil, List.nil_append, List.cons_append, Nat.reduceSub, Nat.reduceAdd, Nat.reduceLeDiff, Nat.reduceLT, Int.reduceLT, Int.reduceLE, Int.reduceAdd, Int.reduceSub, Int.reduceMul, Int.reduceNeg, Int.reduceMod, Int.reduceDiv, Int.reducePow, Int.reduceToNat, okD_int, okD_bl, okD_lst, okD_tup, okD_non, okL_nil, okL_cons, okD_str, okL_int, eqD_int, eqD_bl, eqD_str, eqD_tup, eqD_lst, eqL_cons, eqL_nil, eqL_cn, eqL_nc, eqL_int, Bool.and_eq_true, Bool.or_eq_true, Bool.not_eq_true', Bool.and_false, Bool.false_and, Bool.or_false, Bool.false_or, Bool.or_true, Bool.true_or, Bool.and_true, Bool.true_and, Bool.and_self])
  refine ⟨by omega, by omega, ?_⟩
  refine for_range (fun k env => ∃ s, env = [.val (.int b), .val (.int e), .val (.int (b ^ k)), s]) ⟨_, by rw [Int.pow_zero]⟩ (fun env hI => ?_) (fun k env hk hI nx hn => ?_)
  · obtain ⟨s, rfl⟩ := hI
    unfold B_power_4
    (try simp only [wSeq, wAsg, wOwn, wF, wLc, wSkip, wBrk, wCnt, wRet, wRetF, wRetN, wDrop, wIfS, wPar, wFor, wWh, wV, wApp, wExt, wSetIx, wAug, wVal, wLook, wC, wOp, wTst, wChain, wAnd, wOr, wNot, wAndV, wOrV, wNotV, wIf, wNil, wCons, wTup, wLst, wCall, wCB, wIsT, wiR1, wiR2, wiSq, wiEn, wiZip, gN, gT1, gT2, gT3, gT4, gT5, gT6, gT7, wYes, gAdd, DV.gSub, gMul, gMod, gDiv, gPow, gLt, gLe, gGt, gGe, gCmp, gEq, gNe, gIs, gIsN, isNon, gIn, gNotIn, gIx, gSlc, wSlc, wNoP, wPart, gLen, gAbs, gInt, gMin2, gMax2, gAll, gAny, gSum, gTuple, wNeg, wRev, itemsOf, D.isTy, D.isHand, Sl.toD, big_0, big_1, big_2, big_3, big_4, big_5, big_6, big_7, big_8, big_9, big_10, big_11, big_12, draw_iff, own_ex, val_ex, wipeE, restE, Sl.keep, Option.getD_some, get_z, get_s, set_z, set_s, List.length_cons, List.length_nil, atI_0, atI_1, atI_2, atI_3, atI_4, ixN_5_0, ixN_5_1, ixN_5_2, ixN_5_3, ixN_5_4, D.bl.injEq, D.int.injEq, D.lst.injEq, D.tup.injEq, D.str.injEq, Sl.own.injEq, Sl.val.injEq, Option.some.injEq, exists_eq_left', exists_eq_left, exists_eq', exists_eq, or_true, true_or, or_false, false_or, CMul, CPow, natAbs_10, natAbs_2, Int.cast_ofNat_Int, Nat.reducePow, exists_and_left, exists_const, and_assoc, true_and, and_true, and_self, false_and, and_false, if_true, if_false, ite_true, ite_false, reduceCtorEq, decide_true, decide_false, decide_eq_true_eq, decide_eq_false_iff_not, Bool.not_true, Bool.not_false, Bool.false_eq_true, List.replicate_zero, List.replicate_succ, List.map_cons, List.map_nil, List.nil_append, List.cons_append, Nat.reduceSub, Nat.reduceAdd, Nat.reduceLeDiff, Nat.reduceLT, Int.reduceLT, Int.reduceLE, Int.reduceAdd, Int.reduceSub, Int.reduceMul, Int.reduceNeg, Int.reduceMod, Int.reduceDiv, Int.reducePow, Int.reduceToNat, okD_int, okD_bl, okD_lst, okD_tup, okD_non, okL_nil, okL_cons, okD_str, okL_int, eqD_int, eqD_bl, eqD_str, eqD_tup, eqD_lst, eqL_cons, eqL_nil, eqL_cn, eqL_nc, eqL_int, Bool.and_eq_true, Bool.or_eq_true, Bool.not_eq_true', Bool.and_false, Bool.false_and, Bool.or_false, Bool.false_or, Bool.or_true, Bool.true_or, Bool.and_true, Bool.true_and, Bool.and_self])
    simpa using h
  · obtain ⟨s, rfl⟩ := hI
    (try simp only [wSeq, wAsg, wOwn, wF, wLc, wSkip, wBrk, wCnt, wRet, wRetF, wRetN, wDrop, wIfS, wPar, wFor, wWh, wV, wApp, wExt, wSetIx, wAug, wVal, wLook, wC, wOp, wTst, wChain, wAnd, wOr, wNot, wAndV, wOrV, wNotV, wIf, wNil, wCons, wTup, wLst, wCall, wCB, wIsT, wiR1, wiR2, wiSq, wiEn, wiZip, gN, gT1, gT2, gT3, gT4, gT5, gT6, gT7, wYes, gAdd, DV.gSub, gMul, gMod, gDiv, gPow, gLt, gLe, gGt, gGe, gCmp, gEq, gNe, gIs, gIsN, isNon, gIn, gNotIn, gIx, gSlc, wSlc, wNoP, wPart, gLen, gAbs, gInt, gMin2, gMax2, gAll, gAny, gSum, gTuple, wNeg, wRev, itemsOf, D.isTy, D.isHand, Sl.toD, big_0, big_1, big_2, big_3, big_4, big_5, big_6, big_7, big_8, big_9, big_10, big_11, big_12, draw_iff, own_ex, val_ex, wipeE, restE, Sl.keep, Option.getD_some, get_z, get_s, set_z, set_s, List.length_cons, List.length_nil, atI_0, atI_1, atI_2, atI_3, atI_4, ixN_5_0, ixN_5_1, ixN_5_2, ixN_5_3, ixN_5_4, D.bl.injEq, D.int.injEq, D.lst.injEq, D.tup.injEq, D.str.injEq, Sl.own.injEq, Sl.val.injEq, Option.some.injEq, exists_eq_left', exists_eq_left, exists_eq', exists_eq, or_true, true_or, or_false, false_or, CMul, CPow, natAbs_10, natAbs_2, Int.cast_ofNat_Int, Nat.reducePow, exists_and_left, exists_const, and_assoc, true_and, and_true, and_self, false_and, and_false, if_true, if_false, ite_true, ite_false, reduceCtorEq, decide_true, decide_false, decide_eq_true_eq, decide_eq_false_iff_not, Bool.not_true, Bool.not_false, Bool.false_eq_true, List.replicate_zero, List.replicate_succ, List.map_cons, List.map_nil, List.nil_append, List.cons_append, Nat.reduceSub, Nat.reduceAdd, Nat.reduceLeDiff, Nat.reduceLT, Int.reduceLT, Int.reduceLE, Int.reduceAdd, Int.reduceSub, Int.reduceMul, Int.reduceNeg, Int.reduceMod, Int.reduceDiv, Int.reducePow, Int.reduceToNat, okD_int, okD_bl, okD_lst, okD_tup, okD_non, okL_nil, okL_cons, okD_str, okL_int, eqD_int, eqD_bl, eqD_str, eqD_tup, eqD_lst, eqL_cons, eqL_nil, eqL_cn, eqL_nc, eqL_int, Bool.and_eq_true, Bool.or_eq_true, Bool.not_eq_true', Bool.and_false, Bool.false_and, Bool.or_false, Bool.false_or, Bool.or_true, Bool.true_or, Bool.and_true, Bool.true_and, Bool.and_self])
    refine ⟨.inr ⟨by omega, by omega⟩, hn _ ⟨.val (.int (0 + k)), by rw [Int.pow_succ]⟩⟩
end

/-- L is the part of q that has nothing in common with b -/
def CoPart (b q L : Nat) : Prop := 0 < L ∧ Nat.Coprime L b ∧ ∃ m k, q = L * m ∧ m ∣ b ^ k
theorem CoPart.dvd {b q L L2 : Nat} (h : CoPart b q L) (h2 : CoPart b q L2) : L ∣ L2 := by
  obtain ⟨_, c1, m, k, e1, d1⟩ := h
  obtain ⟨_, c2, m2, k2, e2, d2⟩ := h2
  have c3 : Nat.Coprime L m2 := Nat.Coprime.coprime_dvd_right d2 (Nat.Coprime.pow_right k2 c1)
  exact c3.dvd_of_dvd_mul_right (by rw [← e2, e1]; exact Nat.dvd_mul_right L m)
theorem CoPart.eq {b q L L2 : Nat} (h : CoPart b q L) (h2 : CoPart b q L2) : L = L2 := Nat.dvd_antisymm (h.dvd h2) (h2.dvd h)
section
variable {Q : D → Prop} {E : Er → Prop}
theorem sp_stretch_seen {b q w : Nat} (f : FitOk b q) (h1 : 1 ≤ w) (h2 : w ≤ 4) (h : ∀ L : Nat, CoPart b q L → Q (.bl (decide ((b : Int) ^ w ≤ L)))) : T_stretch_seen [.int b, .int q, .int w] Q E := by
  obtain ⟨g1, g2, g3, g4, g5⟩ := f
  unfold T_stretch_seen wFn B_stretch_seen
  simp only [wSeq, wAsg, wOwn, wF, wLc, wSkip, wBrk, wCnt, wRet, wRetF, wRetN, wDrop, wIfS, wPar, wFor, wWh, wV, wApp, wExt, wSetIx, wAug, wVal, wLook, wC, wOp, wTst, wChain, wAnd, wOr, wNot, wAndV, wOrV, wNotV, wIf, wNil, wCons, wTup, wLst, wCall, wCB, wIsT, wiR1, wiR2, wiSq, wiEn, wiZip, gN, gT1, gT2, gT3, gT4, gT5, gT6, gT7, wYes, gAdd, DV.gSub, gMul, gMod, gDiv, gPow, gLt, gLe, gGt, gGe, gCmp, gEq, gNe, gIs, gIsN, isNon, gIn, gNotIn, gIx, gSlc, wSlc, wNoP, wPart, gLen, gAbs, gInt, gMin2, gMax2, gAll, gAny, gSum, gTuple, wNeg, wRev, itemsOf, D.isTy, D.isHand, Sl.toD, big_0, big_1, big_2, big_3, big_4, big_5, big_6, big_7, big_8, big_9, big_10, big_11, big_12, draw_iff, own_ex, val_ex, wipeE, restE, Sl.keep, Option.getD_some, get_z, get_s, set_z, set_s, List.length_cons, List.length_nil, atI_0, atI_1, atI_2, atI_3, atI_4, ixN_5_0, ixN_5_1, ixN_5_2, ixN_5_3, ixN_5_4, D.bl.injEq, D.int.injEq, D.lst.injEq, D.tup.injEq, D.str.injEq, Sl.own.injEq, Sl.val.injEq, Option.some.injEq, exists_eq_left', exists_eq_left, exists_eq', exists_eq, or_true, true_or, or_false, false_or, CMul, CPow, natAbs_10, natAbs_2, Int.cast_ofNat_Int, Nat.reducePow, exists_and_left, exists_const, and_assoc, true_and, and_true, and_self, false_and, and_false, if_true, if_false, ite_true, ite_false, reduceCtorEq, decide_true, decide_false, decide_eq_true_eq, decide_eq_false_iff_not, Bool.not_true, Bool.not_false, Bool.false_eq_true, List.replicate_zero, List.replicate_succ, List.map_cons, List.map_nil, List.nil_append, List.cons_append, Nat.reduceSub, Nat.reduceAdd, Nat.reduceLeDiff, Nat.reduceLT, Int.reduceLT, Int.reduceLE, Int.reduceAdd, Int.reduceSub, Int.reduceMul, Int.reduceNeg, Int.reduceMod, Int.reduceDiv, Int.reducePow, Int.reduceToNat, okD_int, okD_bl, okD_lst, okD_tup, okD_non, okL_nil, okL_cons, okD_str, okL_int, eqD_int, eqD_bl, eqD_str, eqD_tup, eqD_lst, eqL_cons, eqL_nil, eqL_cn, eqL_nc, eqL_int, Bool.and_eq_true, Bool.or_eq_true, Bool.not_eq_true', Bool.and_false, Bool.false_and, Bool.or_false, Bool.false_or, Bool.or_true, Bool.true_or, Bool.and_true, Bool.true_and, Bool.and_self, sp_check_fit g1 g2 g3 g4 g5]
  unfold B_stretch_seen_2
  simp only [wSeq, wAsg, wOwn, wF, wLc, wSkip, wBrk, wCnt, wRet, wRetF, wRetN, wDrop, wIfS, wPar, wFor, wWh, wV, wApp, wExt, wSetIx, wAug, wVal, wLook, wC, wOp, wTst, wChain, wAnd, wOr, wNot, wAndV, wOrV, wNotV, wIf, wNil, wCons, wTup, wLst, wCall, wCB, wIsT, wiR1, wiR2, wiSq, wiEn, wiZip, gN, gT1, gT2, gT3, gT4, gT5, gT6, gT7, wYes, gAdd, DV.gSub, gMul, gMod, gDiv, gPow, gLt, gLe, gGt, gGe, gCmp, gEq, gNe, gIs, gIsN, isNon, gIn, gNotIn, gIx, gSlc, wSlc, wNoP, wPart, gLen, gAbs, gInt, gMin2, gMax2, gAll, gAny, gSum, gTuple, wNeg, wRev, itemsOf, D.isTy, D.isHand, Sl.toD, big_0, big_1, big_2, big_3, big_4, big_5, big_6, big_7, big_8, big_9, big_10, big_11, big_12, draw_iff, own_ex, val_ex, wipeE, restE, Sl.keep, Option.getD_some, get_z, get_s, set_z, set_s, List.length_cons, List.length_nil, atI_0, atI_1, atI_2, atI_3, atI_4, ixN_5_0, ixN_5_1, ixN_5_2, ixN_5_3, ixN_5_4, D.bl.injEq, D.int.injEq, D.lst.injEq, D.tup.injEq, D.str.injEq, Sl.own.injEq, Sl.val.injEq, Option.some.injEq, exists_eq_left', exists_eq_left, exists_eq', exists_eq, or_true, true_or, or_false, false_or, CMul, CPow, natAbs_10, natAbs_2, Int.cast_ofNat_Int, Nat.reducePow, exists_and_left, exists_const, and_assoc, true_and, and_true, and_self, false_and, and_false, if_true, if_false, ite_true, ite_false, reduceCtorEq, decide_true, decide_false, decide_eq_true_eq, decide_eq_false_iff_not, Bool.not_true, Bool.not_false, Bool.false_eq_true, List.replicate_zero, List.replicate_succ, List.map_cons, List.map_nil, List.nil_append, List.cons_append, Nat.reduceSub, Nat.reduceAdd, Nat.reduceLeDiff, Nat.reduceLT, Int.reduceLT, Int.reduceLE, Int.reduceAdd, Int.reduceSub, Int.reduceMul, Int.reduceNeg, Int.reduceMod, Int.reduceDiv, Int.reducePow, Int.reduceToNat, okD_int, okD_bl, okD_lst, okD_tup, okD_non, okL_nil, okL_cons, okD_str, okL_int, eqD_int, eqD_bl, eqD_str, eqD_tup, eqD_lst, eqL_cons, eqL_nil, eqL_cn, eqL_nc, eqL_int, Bool.and_eq_true, Bool.or_eq_true, Bool.not_eq_true', Bool.and_false, Bool.false_and, Bool.or_false, Bool.false_or, Bool.or_true, Bool.true_or, Bool.and_true, Bool.true_and, Bool.and_self, sp_check_number (show (1 : Int) ≤ w by omega) (show (w : Int) ≤ 4 by omega)]
  unfold B_stretch_seen_3
  (try simp only [wSeq, wAsg, wOwn, wF, wLc, wSkip, wBrk, wCnt, wRet, wRetF, wRetN, wDrop, wIfS, wPar, wFor, wWh, wV, wApp, wExt, wSetIx, wAug, wVal, wLook, wC, wOp, wTst, wChain, wAnd, wOr, wNot, wAndV, wOrV, wNotV, wIf, wNil, wCons, wTup, wLst, wCall, wCB, wIsT, wiR1, wiR2, wiSq, wiEn, wiZip, gN, gT1, gT2, gT3, gT4, gT5, gT6, gT7, wYes, gAdd, DV.gSub, gMul, gMod, gDiv, gPow, gLt, gLe, gGt, gGe, gCmp, gEq, gNe, gIs, gIsN, isNon, gIn, gNotIn, gIx, gSlc, wSlc, wNoP, wPart, gLen, gAbs, gInt, gMin2, gMax2, gAll, gAny, gSum, gTuple, wNeg, wRev, itemsOf, D.isTy, D.isHand, Sl.toD, big_0, big_1, big_2, big_3, big_4, big_5, big_6, big_7, big_8, big_9, big_10, big_11, big_12, draw_iff, own_ex, val_ex, wipeE, restE, Sl.keep, Option.getD_some, get_z, get_s, set_z, set_s, List.length_cons, List.length_nil, atI_0, atI_1, atI_2, atI_3, atI_4, ixN_5_0, ixN_5_1, ixN_5_2, ixN_5_3, ixN_5_4, D.bl.injEq, D.int.injEq, D.lst.injEq, D.tup.injEq, D.str.injEq, Sl.own.injEq, Sl.val.injEq, Option.some.injEq, exists_eq_left', exists_eq_left, exists_eq', exists_eq, or_true, true_or, or_false, false_or, CMul, CPow, natAbs_10, natAbs_2, Int.cast_ofNat_Int, Nat.reducePow, exists_and_left, exists_const, and_assoc, true_and, and_true, and_self, false_and, and_false, if_true, if_false, ite_true, ite_false, reduceCtorEq, decide_true, decide_false, decide_eq_true_eq, decide_eq_false_iff_not, Bool.not_true, Bool.not_false, Bool.false_eq_true, List.replicate_zero, List.replicate_succ, List.map_cons, List.map_nil, List.nil_append, List.cons_append, Nat.reduceSub, Nat.reduceAdd, Nat.reduceLeDiff, Nat.reduceLT, Int.reduceLT, Int.reduceLE, Int.reduceAdd, Int.reduceSub, Int.reduceMul, Int.reduceNeg, Int.reduceMod, Int.reduceDiv, Int.reducePow, Int.reduceToNat, okD_int, okD_bl, okD_lst, okD_tup, okD_non, okL_nil, okL_cons, okD_str, okL_int, eqD_int, eqD_bl, eqD_str, eqD_tup, eqD_lst, eqL_cons, eqL_nil, eqL_cn, eqL_nc, eqL_int, Bool.and_eq_true, Bool.or_eq_true, Bool.not_eq_true', Bool.and_false, Bool.false_and, Bool.or_false, Bool.false_or, Bool.or_true, Bool.true_or, Bool.and_true, Bool.true_and, Bool.and_self])
  unfold B_stretch_seen_4
  (try simp only [wSeq, wAsg, wOwn, wF, wLc, wSkip, wBrk, wCnt, wRet, wRetF, wRetN, wDrop, wIfS, wPar, wFor, wWh, wV, wApp, wExt, wSetIx, wAug, wVal, wLook, wC, wOp, wTst, wChain, wAnd, wOr, wNot, wAndV, wOrV, wNotV, wIf, wNil, wCons, wTup, wLst, wCall, wCB, wIsT, wiR1, wiR2, wiSq, wiEn, wiZip, gN, gT1, gT2, gT3, gT4, gT5, gT6, gT7, wYes, gAdd, DV.gSub, gMul, gMod, gDiv, gPow, gLt, gLe, gGt, gGe, gCmp, gEq, gNe, gIs, gIsN, isNon, gIn, gNotIn, gIx, gSlc, wSlc, wNoP, wPart, gLen, gAbs, gInt, gMin2, gMax2, gAll, gAny, gSum, gTuple, wNeg, wRev, itemsOf, D.isTy, D.isHand, Sl.toD, big_0, big_1, big_2, big_3, big_4, big_5, big_6, big_7, big_8, big_9, big_10, big_11, big_12, draw_iff, own_ex, val_ex, wipeE, restE, Sl.keep, Option.getD_some, get_z, get_s, set_z, set_s, List.length_cons, List.length_nil, atI_0, atI_1, atI_2, atI_3, atI_4, ixN_5_0, ixN_5_1, ixN_5_2, ixN_5_3, ixN_5_4, D.bl.injEq, D.int.injEq, D.lst.injEq, D.tup.injEq, D.str.injEq, Sl.own.injEq, Sl.val.injEq, Option.some.injEq, exists_eq_left', exists_eq_left, exists_eq', exists_eq, or_true, true_or, or_false, false_or, CMul, CPow, natAbs_10, natAbs_2, Int.cast_ofNat_Int, Nat.reducePow, exists_and_left, exists_const, and_assoc, true_and, and_true, and_self, false_and, and_false, if_true, if_false, ite_true, ite_false, reduceCtorEq, decide_true, decide_false, decide_eq_true_eq, decide_eq_false_iff_not, Bool.not_true, Bool.not_false, Bool.false_eq_true, List.replicate_zero, List.replicate_succ, List.map_cons, List.map_nil, List.nil_append, List.cons_append, Nat.reduceSub, Nat.reduceAdd, Nat.reduceLeDiff, Nat.reduceLT, Int.reduceLT, Int.reduceLE, Int.reduceAdd, Int.reduceSub, Int.reduceMul, Int.reduceNeg, Int.reduceMod, Int.reduceDiv, Int.reducePow, Int.reduceToNat, okD_int, okD_bl, okD_lst, okD_tup, okD_non, okL_nil, okL_cons, okD_str, okL_int, eqD_int, eqD_bl, eqD_str, eqD_tup, eqD_lst, eqL_cons, eqL_nil, eqL_cn, eqL_nc, eqL_int, Bool.and_eq_true, Bool.or_eq_true, Bool.not_eq_true', Bool.and_false, Bool.false_and, Bool.or_false, Bool.false_or, Bool.or_true, Bool.true_or, Bool.and_true, Bool.true_and, Bool.and_self])
  refine wh_ind (fun m env => m ≤ q ∧ 0 < m ∧ (∃ c k, q = m * c ∧ c ∣ b ^ k) ∧ env = [.val (.int b), .val (.int q), .val (.int w), .val (.int m)]) (fun m env hI nx hn => ?_) (m := q) ⟨Nat.le_refl _, by omega, ⟨1, 0, by rw [Nat.mul_one], Nat.dvd_refl _⟩, rfl⟩
  obtain ⟨hq, hm, ⟨c, k, e, d⟩, rfl⟩ := hI
  (try simp only [wSeq, wAsg, wOwn, wF, wLc, wSkip, wBrk, wCnt, wRet, wRetF, wRetN, wDrop, wIfS, wPar, wFor, wWh, wV, wApp, wExt, wSetIx, wAug, wVal, wLook, wC, wOp, wTst, wChain, wAnd, wOr, wNot, wAndV, wOrV, wNotV, wIf, wNil, wCons, wTup, wLst, wCall, wCB, wIsT, wiR1, wiR2, wiSq, wiEn, wiZip, gN, gT1, gT2, gT3, gT4, gT5, gT6, gT7, wYes, gAdd, DV.gSub, gMul, gMod, gDiv, gPow, gLt, gLe, gGt, gGe, gCmp, gEq, gNe, gIs, gIsN, isNon, gIn, gNotIn, gIx, gSlc, wSlc, wNoP, wPart, gLen, gAbs, gInt, gMin2, gMax2, gAll, gAny, gSum, gTuple, wNeg, wRev, itemsOf, D.isTy, D.isHand, Sl.toD, big_0, big_1, big_2, big_3, big_4, big_5, big_6, big_7, big_8, big_9, big_10, big_11, big_12, draw_iff, own_ex, val_ex, wipeE, restE, Sl.keep, Option.getD_some, get_z, get_s, set_z, set_s, List.length_cons, List.length_nil, atI_0, atI_1, atI_2, atI_3, atI_4, ixN_5_0, ixN_5_1, ixN_5_2, ixN_5_3, ixN_5_4, D.bl.injEq, D.int.injEq, D.lst.injEq, D.tup.injEq, D.str.injEq, Sl.own.injEq, Sl.val.injEq, Option.some.injEq, exists_eq_left', exists_eq_left, exists_eq', exists_eq, or_true, true_or, or_false, false_or, CMul, CPow, natAbs_10, natAbs_2, Int.cast_ofNat_Int, Nat.reducePow, exists_and_left, exists_const, and_assoc, true_and, and_true, and_self, false_and, and_false, if_true, if_false, ite_true, ite_false, reduceCtorEq, decide_true, decide_false, decide_eq_true_eq, decide_eq_false_iff_not, Bool.not_true, Bool.not_false, Bool.false_eq_true, List.replicate_zero, List.replicate_succ, List.map_cons, List.map_nil, List.nil_append, List.cons_append, Nat.reduceSub, Nat.reduceAdd, Nat.reduceLeDiff, Nat.reduceLT, Int.reduceLT, Int.reduceLE, Int.reduceAdd, Int.reduceSub, Int.reduceMul, Int.reduceNeg, Int.reduceMod, Int.reduceDiv, Int.reducePow, Int.reduceToNat, okD_int, okD_bl, okD_lst, okD_tup, okD_non, okL_nil, okL_cons, okD_str, okL_int, eqD_int, eqD_bl, eqD_str, eqD_tup, eqD_lst, eqL_cons, eqL_nil, eqL_cn, eqL_nc, eqL_int, Bool.and_eq_true, Bool.or_eq_true, Bool.not_eq_true', Bool.and_false, Bool.false_and, Bool.or_false, Bool.false_or, Bool.or_true, Bool.true_or, Bool.and_true, Bool.true_and, Bool.and_self])
  refine sp_common ?_
  (try simp only [wSeq, wAsg, wOwn, wF, wLc, wSkip, wBrk, wCnt, wRet, wRetF, wRetN, wDrop, wIfS, wPar, wFor, wWh, wV, wApp, wExt, wSetIx, wAug, wVal, wLook, wC, wOp, wTst, wChain, wAnd, wOr, wNot, wAndV, wOrV, wNotV, wIf, wNil, wCons, wTup, wLst, wCall, wCB, wIsT, wiR1, wiR2, wiSq, wiEn, wiZip, gN, gT1, gT2, gT3, gT4, gT5, gT6, gT7, wYes, gAdd, DV.gSub, gMul, gMod, gDiv, gPow, gLt, gLe, gGt, gGe, gCmp, gEq, gNe, gIs, gIsN, isNon, gIn, gNotIn, gIx, gSlc, wSlc, wNoP, wPart, gLen, gAbs, gInt, gMin2, gMax2, gAll, gAny, gSum, gTuple, wNeg, wRev, itemsOf, D.isTy, D.isHand, Sl.toD, big_0, big_1, big_2, big_3, big_4, big_5, big_6, big_7, big_8, big_9, big_10, big_11, big_12, draw_iff, own_ex, val_ex, wipeE, restE, Sl.keep, Option.getD_some, get_z, get_s, set_z, set_s, List.length_cons, List.length_nil, atI_0, atI_1, atI_2, atI_3, atI_4, ixN_5_0, ixN_5_1, ixN_5_2, ixN_5_3, ixN_5_4, D.bl.injEq, D.int.injEq, D.lst.injEq, D.tup.injEq, D.str.injEq, Sl.own.injEq, Sl.val.injEq, Option.some.injEq, exists_eq_left', exists_eq_left, exists_eq', exists_eq, or_true, true_or, or_false, false_or, CMul, CPow, natAbs_10, natAbs_2, Int.cast_ofNat_Int, Nat.reducePow, exists_and_left, exists_const, and_assoc, true_and, and_true, and_self, false_and, and_false, if_true, if_false, ite_true, ite_false, reduceCtorEq, decide_true, decide_false, decide_eq_true_eq, decide_eq_false_iff_not, Bool.not_true, Bool.not_false, Bool.false_eq_true, List.replicate_zero, List.replicate_succ, List.map_cons, List.map_nil, List.nil_append, List.cons_append, Nat.reduceSub, Nat.reduceAdd, Nat.reduceLeDiff, Nat.reduceLT, Int.reduceLT, Int.reduceLE, Int.reduceAdd, Int.reduceSub, Int.reduceMul, Int.reduceNeg, Int.reduceMod, Int.reduceDiv, Int.reducePow, Int.reduceToNat, okD_int, okD_bl, okD_lst, okD_tup, okD_non, okL_nil, okL_cons, okD_str, okL_int, eqD_int, eqD_bl, eqD_str, eqD_tup, eqD_lst, eqL_cons, eqL_nil, eqL_cn, eqL_nc, eqL_int, Bool.and_eq_true, Bool.or_eq_true, Bool.not_eq_true', Bool.and_false, Bool.false_and, Bool.or_false, Bool.false_or, Bool.or_true, Bool.true_or, Bool.and_true, Bool.true_and, Bool.and_self])
  by_cases hg : 1 < Nat.gcd m b
  · have hg2 : (1 : Int) < (Nat.gcd m b : Nat) := by omega
    have hl : Nat.gcd m b ≤ m := Nat.gcd_le_left _ hm
    simp only [wSeq, wAsg, wOwn, wF, wLc, wSkip, wBrk, wCnt, wRet, wRetF, wRetN, wDrop, wIfS, wPar, wFor, wWh, wV, wApp, wExt, wSetIx, wAug, wVal, wLook, wC, wOp, wTst, wChain, wAnd, wOr, wNot, wAndV, wOrV, wNotV, wIf, wNil, wCons, wTup, wLst, wCall, wCB, wIsT, wiR1, wiR2, wiSq, wiEn, wiZip, gN, gT1, gT2, gT3, gT4, gT5, gT6, gT7, wYes, gAdd, DV.gSub, gMul, gMod, gDiv, gPow, gLt, gLe, gGt, gGe, gCmp, gEq, gNe, gIs, gIsN, isNon, gIn, gNotIn, gIx, gSlc, wSlc, wNoP, wPart, gLen, gAbs, gInt, gMin2, gMax2, gAll, gAny, gSum, gTuple, wNeg, wRev, itemsOf, D.isTy, D.isHand, Sl.toD, big_0, big_1, big_2, big_3, big_4, big_5, big_6, big_7, big_8, big_9, big_10, big_11, big_12, draw_iff, own_ex, val_ex, wipeE, restE, Sl.keep, Option.getD_some, get_z, get_s, set_z, set_s, List.length_cons, List.length_nil, atI_0, atI_1, atI_2, atI_3, atI_4, ixN_5_0, ixN_5_1, ixN_5_2, ixN_5_3, ixN_5_4, D.bl.injEq, D.int.injEq, D.lst.injEq, D.tup.injEq, D.str.injEq, Sl.own.injEq, Sl.val.injEq, Option.some.injEq, exists_eq_left', exists_eq_left, exists_eq', exists_eq, or_true, true_or, or_false, false_or, CMul, CPow, natAbs_10, natAbs_2, Int.cast_ofNat_Int, Nat.reducePow, exists_and_left, exists_const, and_assoc, true_and, and_true, and_self, false_and, and_false, if_true, if_false, ite_true, ite_false, reduceCtorEq, decide_true, decide_false, decide_eq_true_eq, decide_eq_false_iff_not, Bool.not_true, Bool.not_false, Bool.false_eq_true, List.replicate_zero, List.replicate_succ, List.map_cons, List.map_nil, List.nil_append, List.cons_append, Nat.reduceSub, Nat.reduceAdd, Nat.reduceLeDiff, Nat.reduceLT, Int.reduceLT, Int.reduceLE, Int.reduceAdd, Int.reduceSub, Int.reduceMul, Int.reduceNeg, Int.reduceMod, Int.reduceDiv, Int.reducePow, Int.reduceToNat, okD_int, okD_bl, okD_lst, okD_tup, okD_non, okL_nil, okL_cons, okD_str, okL_int, eqD_int, eqD_bl, eqD_str, eqD_tup, eqD_lst, eqL_cons, eqL_nil, eqL_cn, eqL_nc, eqL_int, Bool.and_eq_true, Bool.or_eq_true, Bool.not_eq_true', Bool.and_false, Bool.false_and, Bool.or_false, Bool.false_or, Bool.or_true, Bool.true_or, Bool.and_true, Bool.true_and, Bool.and_self, hg2]
    refine sp_common ?_
    (try simp only [wSeq, wAsg, wOwn, wF, wLc, wSkip, wBrk, wCnt, wRet, wRetF, wRetN, wDrop, wIfS, wPar, wFor, wWh, wV, wApp, wExt, wSetIx, wAug, wVal, wLook, wC, wOp, wTst, wChain, wAnd, wOr, wNot, wAndV, wOrV, wNotV, wIf, wNil, wCons, wTup, wLst, wCall, wCB, wIsT, wiR1, wiR2, wiSq, wiEn, wiZip, gN, gT1, gT2, gT3, gT4, gT5, gT6, gT7, wYes, gAdd, DV.gSub, gMul, gMod, gDiv, gPow, gLt, gLe, gGt, gGe, gCmp, gEq, gNe, gIs, gIsN, isNon, gIn, gNotIn, gIx, gSlc, wSlc, wNoP, wPart, gLen, gAbs, gInt, gMin2, gMax2, gAll, gAny, gSum, gTuple, wNeg, wRev, itemsOf, D.isTy, D.isHand, Sl.toD, big_0, big_1, big_2, big_3, big_4, big_5, big_6, big_7, big_8, big_9, big_10, big_11, big_12, draw_iff, own_ex, val_ex, wipeE, restE, Sl.keep, Option.getD_some, get_z, get_s, set_z, set_s, List.length_cons, List.length_nil, atI_0, atI_1, atI_2, atI_3, atI_4, ixN_5_0, ixN_5_1, ixN_5_2, ixN_5_3, ixN_5_4, D.bl.injEq, D.int.injEq, D.lst.injEq, D.tup.injEq, D.str.injEq, Sl.own.injEq, Sl.val.injEq, Option.some.injEq, exists_eq_left', exists_eq_left, exists_eq', exists_eq, or_true, true_or, or_false, false_or, CMul, CPow, natAbs_10, natAbs_2, Int.cast_ofNat_Int, Nat.reducePow, exists_and_left, exists_const, and_assoc, true_and, and_true, and_self, false_and, and_false, if_true, if_false, ite_true, ite_false, reduceCtorEq, decide_true, decide_false, decide_eq_true_eq, decide_eq_false_iff_not, Bool.not_true, Bool.not_false, Bool.false_eq_true, List.replicate_zero, List.replicate_succ, List.map_cons, List.map_nil, List.nil_append, List.cons_append, Nat.reduceSub, Nat.reduceAdd, Nat.reduceLeDiff, Nat.reduceLT, Int.reduceLT, Int.reduceLE, Int.reduceAdd, Int.reduceSub, Int.reduceMul, Int.reduceNeg, Int.reduceMod, Int.reduceDiv, Int.reducePow, Int.reduceToNat, okD_int, okD_bl, okD_lst, okD_tup, okD_non, okL_nil, okL_cons, okD_str, okL_int, eqD_int, eqD_bl, eqD_str, eqD_tup, eqD_lst, eqL_cons, eqL_nil, eqL_cn, eqL_nc, eqL_int, Bool.and_eq_true, Bool.or_eq_true, Bool.not_eq_true', Bool.and_false, Bool.false_and, Bool.or_false, Bool.false_or, Bool.or_true, Bool.true_or, Bool.and_true, Bool.true_and, Bool.and_self])
    refine ⟨by omega, by omega, hn (m / Nat.gcd m b) _ (Nat.div_lt_self hm hg) ⟨?_, ?_, ⟨Nat.gcd m b * c, k + 1, ?_, ?_⟩, by rw [Int.natCast_ediv]⟩⟩
    · exact Nat.le_trans (Nat.div_le_self _ _) hq
    · exact Nat.div_pos hl (by omega)
    · rw [← Nat.mul_assoc, Nat.div_mul_cancel (Nat.gcd_dvd_left m b)]; exact e
    · rw [Nat.pow_succ, Nat.mul_comm]
      exact Nat.mul_dvd_mul d (Nat.gcd_dvd_right m b)
  · have hg2 : ¬ (1 : Int) < (Nat.gcd m b : Nat) := by omega
    simp only [wSeq, wAsg, wOwn, wF, wLc, wSkip, wBrk, wCnt, wRet, wRetF, wRetN, wDrop, wIfS, wPar, wFor, wWh, wV, wApp, wExt, wSetIx, wAug, wVal, wLook, wC, wOp, wTst, wChain, wAnd, wOr, wNot, wAndV, wOrV, wNotV, wIf, wNil, wCons, wTup, wLst, wCall, wCB, wIsT, wiR1, wiR2, wiSq, wiEn, wiZip, gN, gT1, gT2, gT3, gT4, gT5, gT6, gT7, wYes, gAdd, DV.gSub, gMul, gMod, gDiv, gPow, gLt, gLe, gGt, gGe, gCmp, gEq, gNe, gIs, gIsN, isNon, gIn, gNotIn, gIx, gSlc, wSlc, wNoP, wPart, gLen, gAbs, gInt, gMin2, gMax2, gAll, gAny, gSum, gTuple, wNeg, wRev, itemsOf, D.isTy, D.isHand, Sl.toD, big_0, big_1, big_2, big_3, big_4, big_5, big_6, big_7, big_8, big_9, big_10, big_11, big_12, draw_iff, own_ex, val_ex, wipeE, restE, Sl.keep, Option.getD_some, get_z, get_s, set_z, set_s, List.length_cons, List.length_nil, atI_0, atI_1, atI_2, atI_3, atI_4, ixN_5_0, ixN_5_1, ixN_5_2, ixN_5_3, ixN_5_4, D.bl.injEq, D.int.injEq, D.lst.injEq, D.tup.injEq, D.str.injEq, Sl.own.injEq, Sl.val.injEq, Option.some.injEq, exists_eq_left', exists_eq_left, exists_eq', exists_eq, or_true, true_or, or_false, false_or, CMul, CPow, natAbs_10, natAbs_2, Int.cast_ofNat_Int, Nat.reducePow, exists_and_left, exists_const, and_assoc, true_and, and_true, and_self, false_and, and_false, if_true, if_false, ite_true, ite_false, reduceCtorEq, decide_true, decide_false, decide_eq_true_eq, decide_eq_false_iff_not, Bool.not_true, Bool.not_false, Bool.false_eq_true, List.replicate_zero, List.replicate_succ, List.map_cons, List.map_nil, List.nil_append, List.cons_append, Nat.reduceSub, Nat.reduceAdd, Nat.reduceLeDiff, Nat.reduceLT, Int.reduceLT, Int.reduceLE, Int.reduceAdd, Int.reduceSub, Int.reduceMul, Int.reduceNeg, Int.reduceMod, Int.reduceDiv, Int.reducePow, Int.reduceToNat, okD_int, okD_bl, okD_lst, okD_tup, okD_non, okL_nil, okL_cons, okD_str, okL_int, eqD_int, eqD_bl, eqD_str, eqD_tup, eqD_lst, eqL_cons, eqL_nil, eqL_cn, eqL_nc, eqL_int, Bool.and_eq_true, Bool.or_eq_true, Bool.not_eq_true', Bool.and_false, Bool.false_and, Bool.or_false, Bool.false_or, Bool.or_true, Bool.true_or, Bool.and_true, Bool.true_and, Bool.and_self, hg2]
    unfold B_stretch_seen_6
    (try simp only [wSeq, wAsg, wOwn, wF, wLc, wSkip, wBrk, wCnt, wRet, wRetF, wRetN, wDrop, wIfS, wPar, wFor, wWh, wV, wApp, wExt, wSetIx, wAug, wVal, wLook, wC, wOp, wTst, wChain, wAnd, wOr, wNot, wAndV, wOrV, wNotV, wIf, wNil, wCons, wTup, wLst, wCall, wCB, wIsT, wiR1, wiR2, wiSq, wiEn, wiZip, gN, gT1, gT2, gT3, gT4, gT5, gT6, gT7, wYes, gAdd, DV.gSub, gMul, gMod, gDiv, gPow, gLt, gLe, gGt, gGe, gCmp, gEq, gNe, gIs, gIsN, isNon, gIn, gNotIn, gIx, gSlc, wSlc, wNoP, wPart, gLen, gAbs, gInt, gMin2, gMax2, gAll, gAny, gSum, gTuple, wNeg, wRev, itemsOf, D.isTy, D.isHand, Sl.toD, big_0, big_1, big_2, big_3, big_4, big_5, big_6, big_7, big_8, big_9, big_10, big_11, big_12, draw_iff, own_ex, val_ex, wipeE, restE, Sl.keep, Option.getD_some, get_z, get_s, set_z, set_s, List.length_cons, List.length_nil, atI_0, atI_1, atI_2, atI_3, atI_4, ixN_5_0, ixN_5_1, ixN_5_2, ixN_5_3, ixN_5_4, D.bl.injEq, D.int.injEq, D.lst.injEq, D.tup.injEq, D.str.injEq, Sl.own.injEq, Sl.val.injEq, Option.some.injEq, exists_eq_left', exists_eq_left, exists_eq', exists_eq, or_true, true_or, or_false, false_or, CMul, CPow, natAbs_10, natAbs_2, Int.cast_ofNat_Int, Nat.reducePow, exists_and_left, exists_const, and_assoc, true_and, and_true, and_self, false_and, and_false, if_true, if_false, ite_true, ite_false, reduceCtorEq, decide_true, decide_false, decide_eq_true_eq, decide_eq_false_iff_not, Bool.not_true, Bool.not_false, Bool.false_eq_true, List.replicate_zero, List.replicate_succ, List.map_cons, List.map_nil, List.nil_append, List.cons_append, Nat.reduceSub, Nat.reduceAdd, Nat.reduceLeDiff, Nat.reduceLT, Int.reduceLT, Int.reduceLE, Int.reduceAdd, Int.reduceSub, Int.reduceMul, Int.reduceNeg, Int.reduceMod, Int.reduceDiv, Int.reducePow, Int.reduceToNat, okD_int, okD_bl, okD_lst, okD_tup, okD_non, okL_nil, okL_cons, okD_str, okL_int, eqD_int, eqD_bl, eqD_str, eqD_tup, eqD_lst, eqL_cons, eqL_nil, eqL_cn, eqL_nc, eqL_int, Bool.and_eq_true, Bool.or_eq_true, Bool.not_eq_true', Bool.and_false, Bool.false_and, Bool.or_false, Bool.false_or, Bool.or_true, Bool.true_or, Bool.and_true, Bool.true_and, Bool.and_self])
    refine sp_power (by omega) (by omega) ?_
    simp only [wSeq, wAsg, wOwn, wF, wLc, wSkip, wBrk, wCnt, wRet, wRetF, wRetN, wDrop, wIfS, wPar, wFor, wWh, wV, wApp, wExt, wSetIx, wAug, wVal, wLook, wC, wOp, wTst, wChain, wAnd, wOr, wNot, wAndV, wOrV, wNotV, wIf, wNil, wCons, wTup, wLst, wCall, wCB, wIsT, wiR1, wiR2, wiSq, wiEn, wiZip, gN, gT1, gT2, gT3, gT4, gT5, gT6, gT7, wYes, gAdd, DV.gSub, gMul, gMod, gDiv, gPow, gLt, gLe, gGt, gGe, gCmp, gEq, gNe, gIs, gIsN, isNon, gIn, gNotIn, gIx, gSlc, wSlc, wNoP, wPart, gLen, gAbs, gInt, gMin2, gMax2, gAll, gAny, gSum, gTuple, wNeg, wRev, itemsOf, D.isTy, D.isHand, Sl.toD, big_0, big_1, big_2, big_3, big_4, big_5, big_6, big_7, big_8, big_9, big_10, big_11, big_12, draw_iff, own_ex, val_ex, wipeE, restE, Sl.keep, Option.getD_some, get_z, get_s, set_z, set_s, List.length_cons, List.length_nil, atI_0, atI_1, atI_2, atI_3, atI_4, ixN_5_0, ixN_5_1, ixN_5_2, ixN_5_3, ixN_5_4, D.bl.injEq, D.int.injEq, D.lst.injEq, D.tup.injEq, D.str.injEq, Sl.own.injEq, Sl.val.injEq, Option.some.injEq, exists_eq_left', exists_eq_left, exists_eq', exists_eq, or_true, true_or, or_false, false_or, CMul, CPow, natAbs_10, natAbs_2, Int.cast_ofNat_Int, Nat.reducePow, exists_and_left, exists_const, and_assoc, true_and, and_true, and_self, false_and, and_false, if_true, if_false, ite_true, ite_false, reduceCtorEq, decide_true, decide_false, decide_eq_true_eq, decide_eq_false_iff_not, Bool.not_true, Bool.not_false, Bool.false_eq_true, List.replicate_zero, List.replicate_succ, List.map_cons, List.map_nil, List.nil_append, List.cons_append, Nat.reduceSub, Nat.reduceAdd, Nat.reduceLeDiff, Nat.reduceLT, Int.reduceLT, Int.reduceLE, Int.reduceAdd, Int.reduceSub, Int.reduceMul, Int.reduceNeg, Int.reduceMod, Int.reduceDiv, Int.reducePow, Int.reduceToNat, okD_int, okD_bl, okD_lst, okD_tup, okD_non, okL_nil, okL_cons, okD_str, okL_int, eqD_int, eqD_bl, eqD_str, eqD_tup, eqD_lst, eqL_cons, eqL_nil, eqL_cn, eqL_nc, eqL_int, Bool.and_eq_true, Bool.or_eq_true, Bool.not_eq_true', Bool.and_false, Bool.false_and, Bool.or_false, Bool.false_or, Bool.or_true, Bool.true_or, Bool.and_true, Bool.true_and, Bool.and_self, Int.toNat_natCast]
    refine h m ⟨hm, ?_, c, k, e, d⟩
    have := Nat.gcd_pos_of_pos_left b hm
    show Nat.gcd m b = 1
    omega
end

section
variable {Q : D → Prop} {E : Er → Prop}
theorem sp_law_own_part {b q : Nat} (hb : 2 ≤ b) (hb2 : b ≤ 36) (hq : 1 ≤ q) (hq2 : q ≤ 100000) (h : ∀ L : Nat, CoPart b q L → Q (.int L)) : T__law_own_part [.int b, .int q] Q E := by
  unfold T__law_own_part wFn B__law_own_part
  (try simp only [wSeq, wAsg, wOwn, wF, wLc, wSkip, wBrk, wCnt, wRet, wRetF, wRetN, wDrop, wIfS, wPar, wFor, wWh, wV, wApp, wExt, wSetIx, wAug, wVal, wLook, wC, wOp, wTst, wChain, wAnd, wOr, wNot, wAndV, wOrV, wNotV, wIf, wNil, wCons, wTup, wLst, wCall, wCB, wIsT, wiR1, wiR2, wiSq, wiEn, wiZip, gN, gT1, gT2, gT3, gT4, gT5, gT6, gT7, wYes, gAdd, DV.gSub, gMul, gMod, gDiv, gPow, gLt, gLe, gGt, gGe, gCmp, gEq, gNe, gIs, gIsN, isNon, gIn, gNotIn, gIx, gSlc, wSlc, wNoP, wPart, gLen, gAbs, gInt, gMin2, gMax2, gAll, gAny, gSum, gTuple, wNeg, wRev, itemsOf, D.isTy, D.isHand, Sl.toD, big_0, big_1, big_2, big_3, big_4, big_5, big_6, big_7, big_8, big_9, big_10, big_11, big_12, draw_iff, own_ex, val_ex, wipeE, restE, Sl.keep, Option.getD_some, get_z, get_s, set_z, set_s, List.length_cons, List.length_nil, atI_0, atI_1, atI_2, atI_3, atI_4, ixN_5_0, ixN_5_1, ixN_5_2, ixN_5_3, ixN_5_4, D.bl.injEq, D.int.injEq, D.lst.injEq, D.tup.injEq, D.str.injEq, Sl.own.injEq, Sl.val.injEq, Option.some.injEq, exists_eq_left', exists_eq_left, exists_eq', exists_eq, or_true, true_or, or_false, false_or, CMul, CPow, natAbs_10, natAbs_2, Int.cast_ofNat_Int, Nat.reducePow, exists_and_left, exists_const, and_assoc, true_and, and_true, and_self, false_and, and_false, if_true, if_false, ite_true, ite_false, reduceCtorEq, decide_true, decide_false, decide_eq_true_eq, decide_eq_false_iff_not, Bool.not_true, Bool.not_false, Bool.false_eq_true, List.replicate_zero, List.replicate_succ, List.map_cons, List.map_nil, List.nil_append, List.cons_append, Nat.reduceSub, Nat.reduceAdd, Nat.reduceLeDiff, Nat.reduceLT, Int.reduceLT, Int.reduceLE, Int.reduceAdd, Int.reduceSub, Int.reduceMul, Int.reduceNeg, Int.reduceMod, Int.reduceDiv, Int.reducePow, Int.reduceToNat, okD_int, okD_bl, okD_lst, okD_tup, okD_non, okL_nil, okL_cons, okD_str, okL_int, eqD_int, eqD_bl, eqD_str, eqD_tup, eqD_lst, eqL_cons, eqL_nil, eqL_cn, eqL_nc, eqL_int, Bool.and_eq_true, Bool.or_eq_true, Bool.not_eq_true', Bool.and_false, Bool.false_and, Bool.or_false, Bool.false_or, Bool.or_true, Bool.true_or, Bool.and_true, Bool.true_and, Bool.and_self])
  unfold B__law_own_part_2
  (try simp only [wSeq, wAsg, wOwn, wF, wLc, wSkip, wBrk, wCnt, wRet, wRetF, wRetN, wDrop, wIfS, wPar, wFor, wWh, wV, wApp, wExt, wSetIx, wAug, wVal, wLook, wC, wOp, wTst, wChain, wAnd, wOr, wNot, wAndV, wOrV, wNotV, wIf, wNil, wCons, wTup, wLst, wCall, wCB, wIsT, wiR1, wiR2, wiSq, wiEn, wiZip, gN, gT1, gT2, gT3, gT4, gT5, gT6, gT7, wYes, gAdd, DV.gSub, gMul, gMod, gDiv, gPow, gLt, gLe, gGt, gGe, gCmp, gEq, gNe, gIs, gIsN, isNon, gIn, gNotIn, gIx, gSlc, wSlc, wNoP, wPart, gLen, gAbs, gInt, gMin2, gMax2, gAll, gAny, gSum, gTuple, wNeg, wRev, itemsOf, D.isTy, D.isHand, Sl.toD, big_0, big_1, big_2, big_3, big_4, big_5, big_6, big_7, big_8, big_9, big_10, big_11, big_12, draw_iff, own_ex, val_ex, wipeE, restE, Sl.keep, Option.getD_some, get_z, get_s, set_z, set_s, List.length_cons, List.length_nil, atI_0, atI_1, atI_2, atI_3, atI_4, ixN_5_0, ixN_5_1, ixN_5_2, ixN_5_3, ixN_5_4, D.bl.injEq, D.int.injEq, D.lst.injEq, D.tup.injEq, D.str.injEq, Sl.own.injEq, Sl.val.injEq, Option.some.injEq, exists_eq_left', exists_eq_left, exists_eq', exists_eq, or_true, true_or, or_false, false_or, CMul, CPow, natAbs_10, natAbs_2, Int.cast_ofNat_Int, Nat.reducePow, exists_and_left, exists_const, and_assoc, true_and, and_true, and_self, false_and, and_false, if_true, if_false, ite_true, ite_false, reduceCtorEq, decide_true, decide_false, decide_eq_true_eq, decide_eq_false_iff_not, Bool.not_true, Bool.not_false, Bool.false_eq_true, List.replicate_zero, List.replicate_succ, List.map_cons, List.map_nil, List.nil_append, List.cons_append, Nat.reduceSub, Nat.reduceAdd, Nat.reduceLeDiff, Nat.reduceLT, Int.reduceLT, Int.reduceLE, Int.reduceAdd, Int.reduceSub, Int.reduceMul, Int.reduceNeg, Int.reduceMod, Int.reduceDiv, Int.reducePow, Int.reduceToNat, okD_int, okD_bl, okD_lst, okD_tup, okD_non, okL_nil, okL_cons, okD_str, okL_int, eqD_int, eqD_bl, eqD_str, eqD_tup, eqD_lst, eqL_cons, eqL_nil, eqL_cn, eqL_nc, eqL_int, Bool.and_eq_true, Bool.or_eq_true, Bool.not_eq_true', Bool.and_false, Bool.false_and, Bool.or_false, Bool.false_or, Bool.or_true, Bool.true_or, Bool.and_true, Bool.true_and, Bool.and_self])
  refine ⟨by omega, by omega, ?_⟩
  refine for_range (fun k env => ∃ s, ∃ m : Nat, (0 < m ∧ m ≤ q ∧ (∃ c j, q = m * c ∧ c ∣ b ^ j) ∧ ∀ d : Nat, 2 ≤ d → d < 2 + k → d ∣ b → ¬ d ∣ m) ∧ env = [.val (.int b), .val (.int q), .val (.int m), s])
    ⟨_, q, ⟨by omega, Nat.le_refl _, ⟨1, 0, by rw [Nat.mul_one], Nat.dvd_refl _⟩, fun d d1 d2 => by omega⟩, rfl⟩ (fun env hI => ?_) (fun k env hk hI nx hn => ?_)
  · obtain ⟨s, m, ⟨m1, m2, ⟨c, j, e, d⟩, hd⟩, rfl⟩ := hI
    unfold B__law_own_part_6
    (try simp only [wSeq, wAsg, wOwn, wF, wLc, wSkip, wBrk, wCnt, wRet, wRetF, wRetN, wDrop, wIfS, wPar, wFor, wWh, wV, wApp, wExt, wSetIx, wAug, wVal, wLook, wC, wOp, wTst, wChain, wAnd, wOr, wNot, wAndV, wOrV, wNotV, wIf, wNil, wCons, wTup, wLst, wCall, wCB, wIsT, wiR1, wiR2, wiSq, wiEn, wiZip, gN, gT1, gT2, gT3, gT4, gT5, gT6, gT7, wYes, gAdd, DV.gSub, gMul, gMod, gDiv, gPow, gLt, gLe, gGt, gGe, gCmp, gEq, gNe, gIs, gIsN, isNon, gIn, gNotIn, gIx, gSlc, wSlc, wNoP, wPart, gLen, gAbs, gInt, gMin2, gMax2, gAll, gAny, gSum, gTuple, wNeg, wRev, itemsOf, D.isTy, D.isHand, Sl.toD, big_0, big_1, big_2, big_3, big_4, big_5, big_6, big_7, big_8, big_9, big_10, big_11, big_12, draw_iff, own_ex, val_ex, wipeE, restE, Sl.keep, Option.getD_some, get_z, get_s, set_z, set_s, List.length_cons, List.length_nil, atI_0, atI_1, atI_2, atI_3, atI_4, ixN_5_0, ixN_5_1, ixN_5_2, ixN_5_3, ixN_5_4, D.bl.injEq, D.int.injEq, D.lst.injEq, D.tup.injEq, D.str.injEq, Sl.own.injEq, Sl.val.injEq, Option.some.injEq, exists_eq_left', exists_eq_left, exists_eq', exists_eq, or_true, true_or, or_false, false_or, CMul, CPow, natAbs_10, natAbs_2, Int.cast_ofNat_Int, Nat.reducePow, exists_and_left, exists_const, and_assoc, true_and, and_true, and_self, false_and, and_false, if_true, if_false, ite_true, ite_false, reduceCtorEq, decide_true, decide_false, decide_eq_true_eq, decide_eq_false_iff_not, Bool.not_true, Bool.not_false, Bool.false_eq_true, List.replicate_zero, List.replicate_succ, List.map_cons, List.map_nil, List.nil_append, List.cons_append, Nat.reduceSub, Nat.reduceAdd, Nat.reduceLeDiff, Nat.reduceLT, Int.reduceLT, Int.reduceLE, Int.reduceAdd, Int.reduceSub, Int.reduceMul, Int.reduceNeg, Int.reduceMod, Int.reduceDiv, Int.reducePow, Int.reduceToNat, okD_int, okD_bl, okD_lst, okD_tup, okD_non, okL_nil, okL_cons, okD_str, okL_int, eqD_int, eqD_bl, eqD_str, eqD_tup, eqD_lst, eqL_cons, eqL_nil, eqL_cn, eqL_nc, eqL_int, Bool.and_eq_true, Bool.or_eq_true, Bool.not_eq_true', Bool.and_false, Bool.false_and, Bool.or_false, Bool.false_or, Bool.or_true, Bool.true_or, Bool.and_true, Bool.true_and, Bool.and_self])
    refine h m ⟨m1, ?_, c, j, e, d⟩
    have gp := Nat.gcd_pos_of_pos_left b m1
    rcases Nat.lt_or_ge 1 (Nat.gcd m b) with hg | hg
    · exfalso
      have := Nat.le_of_dvd (by omega) (Nat.gcd_dvd_right m b)
      exact hd (Nat.gcd m b) (by omega) (by omega) (Nat.gcd_dvd_right m b) (Nat.gcd_dvd_left m b)
    · show Nat.gcd m b = 1
      omega
  · obtain ⟨s, m, ⟨m1, m2, ⟨c, j, e, d⟩, hd⟩, rfl⟩ := hI
    have ek : (2 : Int) + k = ((2 + k : Nat) : Int) := by omega
    simp only [wSeq, wAsg, wOwn, wF, wLc, wSkip, wBrk, wCnt, wRet, wRetF, wRetN, wDrop, wIfS, wPar, wFor, wWh, wV, wApp, wExt, wSetIx, wAug, wVal, wLook, wC, wOp, wTst, wChain, wAnd, wOr, wNot, wAndV, wOrV, wNotV, wIf, wNil, wCons, wTup, wLst, wCall, wCB, wIsT, wiR1, wiR2, wiSq, wiEn, wiZip, gN, gT1, gT2, gT3, gT4, gT5, gT6, gT7, wYes, gAdd, DV.gSub, gMul, gMod, gDiv, gPow, gLt, gLe, gGt, gGe, gCmp, gEq, gNe, gIs, gIsN, isNon, gIn, gNotIn, gIx, gSlc, wSlc, wNoP, wPart, gLen, gAbs, gInt, gMin2, gMax2, gAll, gAny, gSum, gTuple, wNeg, wRev, itemsOf, D.isTy, D.isHand, Sl.toD, big_0, big_1, big_2, big_3, big_4, big_5, big_6, big_7, big_8, big_9, big_10, big_11, big_12, draw_iff, own_ex, val_ex, wipeE, restE, Sl.keep, Option.getD_some, get_z, get_s, set_z, set_s, List.length_cons, List.length_nil, atI_0, atI_1, atI_2, atI_3, atI_4, ixN_5_0, ixN_5_1, ixN_5_2, ixN_5_3, ixN_5_4, D.bl.injEq, D.int.injEq, D.lst.injEq, D.tup.injEq, D.str.injEq, Sl.own.injEq, Sl.val.injEq, Option.some.injEq, exists_eq_left', exists_eq_left, exists_eq', exists_eq, or_true, true_or, or_false, false_or, CMul, CPow, natAbs_10, natAbs_2, Int.cast_ofNat_Int, Nat.reducePow, exists_and_left, exists_const, and_assoc, true_and, and_true, and_self, false_and, and_false, if_true, if_false, ite_true, ite_false, reduceCtorEq, decide_true, decide_false, decide_eq_true_eq, decide_eq_false_iff_not, Bool.not_true, Bool.not_false, Bool.false_eq_true, List.replicate_zero, List.replicate_succ, List.map_cons, List.map_nil, List.nil_append, List.cons_append, Nat.reduceSub, Nat.reduceAdd, Nat.reduceLeDiff, Nat.reduceLT, Int.reduceLT, Int.reduceLE, Int.reduceAdd, Int.reduceSub, Int.reduceMul, Int.reduceNeg, Int.reduceMod, Int.reduceDiv, Int.reducePow, Int.reduceToNat, okD_int, okD_bl, okD_lst, okD_tup, okD_non, okL_nil, okL_cons, okD_str, okL_int, eqD_int, eqD_bl, eqD_str, eqD_tup, eqD_lst, eqL_cons, eqL_nil, eqL_cn, eqL_nc, eqL_int, Bool.and_eq_true, Bool.or_eq_true, Bool.not_eq_true', Bool.and_false, Bool.false_and, Bool.or_false, Bool.false_or, Bool.or_true, Bool.true_or, Bool.and_true, Bool.true_and, Bool.and_self, ek]
    unfold B__law_own_part_3
    (try simp only [wSeq, wAsg, wOwn, wF, wLc, wSkip, wBrk, wCnt, wRet, wRetF, wRetN, wDrop, wIfS, wPar, wFor, wWh, wV, wApp, wExt, wSetIx, wAug, wVal, wLook, wC, wOp, wTst, wChain, wAnd, wOr, wNot, wAndV, wOrV, wNotV, wIf, wNil, wCons, wTup, wLst, wCall, wCB, wIsT, wiR1, wiR2, wiSq, wiEn, wiZip, gN, gT1, gT2, gT3, gT4, gT5, gT6, gT7, wYes, gAdd, DV.gSub, gMul, gMod, gDiv, gPow, gLt, gLe, gGt, gGe, gCmp, gEq, gNe, gIs, gIsN, isNon, gIn, gNotIn, gIx, gSlc, wSlc, wNoP, wPart, gLen, gAbs, gInt, gMin2, gMax2, gAll, gAny, gSum, gTuple, wNeg, wRev, itemsOf, D.isTy, D.isHand, Sl.toD, big_0, big_1, big_2, big_3, big_4, big_5, big_6, big_7, big_8, big_9, big_10, big_11, big_12, draw_iff, own_ex, val_ex, wipeE, restE, Sl.keep, Option.getD_some, get_z, get_s, set_z, set_s, List.length_cons, List.length_nil, atI_0, atI_1, atI_2, atI_3, atI_4, ixN_5_0, ixN_5_1, ixN_5_2, ixN_5_3, ixN_5_4, D.bl.injEq, D.int.injEq, D.lst.injEq, D.tup.injEq, D.str.injEq, Sl.own.injEq, Sl.val.injEq, Option.some.injEq, exists_eq_left', exists_eq_left, exists_eq', exists_eq, or_true, true_or, or_false, false_or, CMul, CPow, natAbs_10, natAbs_2, Int.cast_ofNat_Int, Nat.reducePow, exists_and_left, exists_const, and_assoc, true_and, and_true, and_self, false_and, and_false, if_true, if_false, ite_true, ite_false, reduceCtorEq, decide_true, decide_false, decide_eq_true_eq, decide_eq_false_iff_not, Bool.not_true, Bool.not_false, Bool.false_eq_true, List.replicate_zero, List.replicate_succ, List.map_cons, List.map_nil, List.nil_append, List.cons_append, Nat.reduceSub, Nat.reduceAdd, Nat.reduceLeDiff, Nat.reduceLT, Int.reduceLT, Int.reduceLE, Int.reduceAdd, Int.reduceSub, Int.reduceMul, Int.reduceNeg, Int.reduceMod, Int.reduceDiv, Int.reducePow, Int.reduceToNat, okD_int, okD_bl, okD_lst, okD_tup, okD_non, okL_nil, okL_cons, okD_str, okL_int, eqD_int, eqD_bl, eqD_str, eqD_tup, eqD_lst, eqL_cons, eqL_nil, eqL_cn, eqL_nc, eqL_int, Bool.and_eq_true, Bool.or_eq_true, Bool.not_eq_true', Bool.and_false, Bool.false_and, Bool.or_false, Bool.false_or, Bool.or_true, Bool.true_or, Bool.and_true, Bool.true_and, Bool.and_self])
    refine ⟨by omega, ?_⟩
    by_cases hdv : (2 + k) ∣ b
    · have e1 : (b : Int) % ((2 + k : Nat) : Int) = 0 := Int.emod_eq_zero_of_dvd (Int.natCast_dvd_natCast.mpr hdv)
      simp only [wSeq, wAsg, wOwn, wF, wLc, wSkip, wBrk, wCnt, wRet, wRetF, wRetN, wDrop, wIfS, wPar, wFor, wWh, wV, wApp, wExt, wSetIx, wAug, wVal, wLook, wC, wOp, wTst, wChain, wAnd, wOr, wNot, wAndV, wOrV, wNotV, wIf, wNil, wCons, wTup, wLst, wCall, wCB, wIsT, wiR1, wiR2, wiSq, wiEn, wiZip, gN, gT1, gT2, gT3, gT4, gT5, gT6, gT7, wYes, gAdd, DV.gSub, gMul, gMod, gDiv, gPow, gLt, gLe, gGt, gGe, gCmp, gEq, gNe, gIs, gIsN, isNon, gIn, gNotIn, gIx, gSlc, wSlc, wNoP, wPart, gLen, gAbs, gInt, gMin2, gMax2, gAll, gAny, gSum, gTuple, wNeg, wRev, itemsOf, D.isTy, D.isHand, Sl.toD, big_0, big_1, big_2, big_3, big_4, big_5, big_6, big_7, big_8, big_9, big_10, big_11, big_12, draw_iff, own_ex, val_ex, wipeE, restE, Sl.keep, Option.getD_some, get_z, get_s, set_z, set_s, List.length_cons, List.length_nil, atI_0, atI_1, atI_2, atI_3, atI_4, ixN_5_0, ixN_5_1, ixN_5_2, ixN_5_3, ixN_5_4, D.bl.injEq, D.int.injEq, D.lst.injEq, D.tup.injEq, D.str.injEq, Sl.own.injEq, Sl.val.injEq, Option.some.injEq, exists_eq_left', exists_eq_left, exists_eq', exists_eq, or_true, true_or, or_false, false_or, CMul, CPow, natAbs_10, natAbs_2, Int.cast_ofNat_Int, Nat.reducePow, exists_and_left, exists_const, and_assoc, true_and, and_true, and_self, false_and, and_false, if_true, if_false, ite_true, ite_false, reduceCtorEq, decide_true, decide_false, decide_eq_true_eq, decide_eq_false_iff_not, Bool.not_true, Bool.not_false, Bool.false_eq_true, List.replicate_zero, List.replicate_succ, List.map_cons, List.map_nil, List.nil_append, List.cons_append, Nat.reduceSub, Nat.reduceAdd, Nat.reduceLeDiff, Nat.reduceLT, Int.reduceLT, Int.reduceLE, Int.reduceAdd, Int.reduceSub, Int.reduceMul, Int.reduceNeg, Int.reduceMod, Int.reduceDiv, Int.reducePow, Int.reduceToNat, okD_int, okD_bl, okD_lst, okD_tup, okD_non, okL_nil, okL_cons, okD_str, okL_int, eqD_int, eqD_bl, eqD_str, eqD_tup, eqD_lst, eqL_cons, eqL_nil, eqL_cn, eqL_nc, eqL_int, Bool.and_eq_true, Bool.or_eq_true, Bool.not_eq_true', Bool.and_false, Bool.false_and, Bool.or_false, Bool.false_or, Bool.or_true, Bool.true_or, Bool.and_true, Bool.true_and, Bool.and_self, e1]
      unfold B__law_own_part_4
      (try simp only [wSeq, wAsg, wOwn, wF, wLc, wSkip, wBrk, wCnt, wRet, wRetF, wRetN, wDrop, wIfS, wPar, wFor, wWh, wV, wApp, wExt, wSetIx, wAug, wVal, wLook, wC, wOp, wTst, wChain, wAnd, wOr, wNot, wAndV, wOrV, wNotV, wIf, wNil, wCons, wTup, wLst, wCall, wCB, wIsT, wiR1, wiR2, wiSq, wiEn, wiZip, gN, gT1, gT2, gT3, gT4, gT5, gT6, gT7, wYes, gAdd, DV.gSub, gMul, gMod, gDiv, gPow, gLt, gLe, gGt, gGe, gCmp, gEq, gNe, gIs, gIsN, isNon, gIn, gNotIn, gIx, gSlc, wSlc, wNoP, wPart, gLen, gAbs, gInt, gMin2, gMax2, gAll, gAny, gSum, gTuple, wNeg, wRev, itemsOf, D.isTy, D.isHand, Sl.toD, big_0, big_1, big_2, big_3, big_4, big_5, big_6, big_7, big_8, big_9, big_10, big_11, big_12, draw_iff, own_ex, val_ex, wipeE, restE, Sl.keep, Option.getD_some, get_z, get_s, set_z, set_s, List.length_cons, List.length_nil, atI_0, atI_1, atI_2, atI_3, atI_4, ixN_5_0, ixN_5_1, ixN_5_2, ixN_5_3, ixN_5_4, D.bl.injEq, D.int.injEq, D.lst.injEq, D.tup.injEq, D.str.injEq, Sl.own.injEq, Sl.val.injEq, Option.some.injEq, exists_eq_left', exists_eq_left, exists_eq', exists_eq, or_true, true_or, or_false, false_or, CMul, CPow, natAbs_10, natAbs_2, Int.cast_ofNat_Int, Nat.reducePow, exists_and_left, exists_const, and_assoc, true_and, and_true, and_self, false_and, and_false, if_true, if_false, ite_true, ite_false, reduceCtorEq, decide_true, decide_false, decide_eq_true_eq, decide_eq_false_iff_not, Bool.not_true, Bool.not_false, Bool.false_eq_true, List.replicate_zero, List.replicate_succ, List.map_cons, List.map_nil, List.nil_append, List.cons_append, Nat.reduceSub, Nat.reduceAdd, Nat.reduceLeDiff, Nat.reduceLT, Int.reduceLT, Int.reduceLE, Int.reduceAdd, Int.reduceSub, Int.reduceMul, Int.reduceNeg, Int.reduceMod, Int.reduceDiv, Int.reducePow, Int.reduceToNat, okD_int, okD_bl, okD_lst, okD_tup, okD_non, okL_nil, okL_cons, okD_str, okL_int, eqD_int, eqD_bl, eqD_str, eqD_tup, eqD_lst, eqL_cons, eqL_nil, eqL_cn, eqL_nc, eqL_int, Bool.and_eq_true, Bool.or_eq_true, Bool.not_eq_true', Bool.and_false, Bool.false_and, Bool.or_false, Bool.false_or, Bool.or_true, Bool.true_or, Bool.and_true, Bool.true_and, Bool.and_self])
      refine wh_ind (fun r env => (0 < r ∧ r ≤ q ∧ (∃ c j, q = r * c ∧ c ∣ b ^ j) ∧ ∀ d : Nat, 2 ≤ d → d < 2 + k → d ∣ b → ¬ d ∣ r) ∧ env = [.val (.int b), .val (.int q), .val (.int r), .val (.int ((2 + k : Nat) : Int))]) (fun r env hI nx' hn' => ?_) (m := m) ⟨⟨m1, m2, ⟨c, j, e, d⟩, hd⟩, rfl⟩
      obtain ⟨⟨r1, r2, ⟨c, j, e, d⟩, hd⟩, rfl⟩ := hI
      (try simp only [wSeq, wAsg, wOwn, wF, wLc, wSkip, wBrk, wCnt, wRet, wRetF, wRetN, wDrop, wIfS, wPar, wFor, wWh, wV, wApp, wExt, wSetIx, wAug, wVal, wLook, wC, wOp, wTst, wChain, wAnd, wOr, wNot, wAndV, wOrV, wNotV, wIf, wNil, wCons, wTup, wLst, wCall, wCB, wIsT, wiR1, wiR2, wiSq, wiEn, wiZip, gN, gT1, gT2, gT3, gT4, gT5, gT6, gT7, wYes, gAdd, DV.gSub, gMul, gMod, gDiv, gPow, gLt, gLe, gGt, gGe, gCmp, gEq, gNe, gIs, gIsN, isNon, gIn, gNotIn, gIx, gSlc, wSlc, wNoP, wPart, gLen, gAbs, gInt, gMin2, gMax2, gAll, gAny, gSum, gTuple, wNeg, wRev, itemsOf, D.isTy, D.isHand, Sl.toD, big_0, big_1, big_2, big_3, big_4, big_5, big_6, big_7, big_8, big_9, big_10, big_11, big_12, draw_iff, own_ex, val_ex, wipeE, restE, Sl.keep, Option.getD_some, get_z, get_s, set_z, set_s, List.length_cons, List.length_nil, atI_0, atI_1, atI_2, atI_3, atI_4, ixN_5_0, ixN_5_1, ixN_5_2, ixN_5_3, ixN_5_4, D.bl.injEq, D.int.injEq, D.lst.injEq, D.tup.injEq, D.str.injEq, Sl.own.injEq, Sl.val.injEq, Option.some.injEq, exists_eq_left', exists_eq_left, exists_eq', exists_eq, or_true, true_or, or_false, false_or, CMul, CPow, natAbs_10, natAbs_2, Int.cast_ofNat_Int, Nat.reducePow, exists_and_left, exists_const, and_assoc, true_and, and_true, and_self, false_and, and_false, if_true, if_false, ite_true, ite_false, reduceCtorEq, decide_true, decide_false, decide_eq_true_eq, decide_eq_false_iff_not, Bool.not_true, Bool.not_false, Bool.false_eq_true, List.replicate_zero, List.replicate_succ, List.map_cons, List.map_nil, List.nil_append, List.cons_append, Nat.reduceSub, Nat.reduceAdd, Nat.reduceLeDiff, Nat.reduceLT, Int.reduceLT, Int.reduceLE, Int.reduceAdd, Int.reduceSub, Int.reduceMul, Int.reduceNeg, Int.reduceMod, Int.reduceDiv, Int.reducePow, Int.reduceToNat, okD_int, okD_bl, okD_lst, okD_tup, okD_non, okL_nil, okL_cons, okD_str, okL_int, eqD_int, eqD_bl, eqD_str, eqD_tup, eqD_lst, eqL_cons, eqL_nil, eqL_cn, eqL_nc, eqL_int, Bool.and_eq_true, Bool.or_eq_true, Bool.not_eq_true', Bool.and_false, Bool.false_and, Bool.or_false, Bool.false_or, Bool.or_true, Bool.true_or, Bool.and_true, Bool.true_and, Bool.and_self])
      refine ⟨by omega, ?_⟩
      by_cases hr : (2 + k) ∣ r
      · have e2 : (r : Int) % ((2 + k : Nat) : Int) = 0 := Int.emod_eq_zero_of_dvd (Int.natCast_dvd_natCast.mpr hr)
        have rl := Nat.le_of_dvd r1 hr
        simp only [wSeq, wAsg, wOwn, wF, wLc, wSkip, wBrk, wCnt, wRet, wRetF, wRetN, wDrop, wIfS, wPar, wFor, wWh, wV, wApp, wExt, wSetIx, wAug, wVal, wLook, wC, wOp, wTst, wChain, wAnd, wOr, wNot, wAndV, wOrV, wNotV, wIf, wNil, wCons, wTup, wLst, wCall, wCB, wIsT, wiR1, wiR2, wiSq, wiEn, wiZip, gN, gT1, gT2, gT3, gT4, gT5, gT6, gT7, wYes, gAdd, DV.gSub, gMul, gMod, gDiv, gPow, gLt, gLe, gGt, gGe, gCmp, gEq, gNe, gIs, gIsN, isNon, gIn, gNotIn, gIx, gSlc, wSlc, wNoP, wPart, gLen, gAbs, gInt, gMin2, gMax2, gAll, gAny, gSum, gTuple, wNeg, wRev, itemsOf, D.isTy, D.isHand, Sl.toD, big_0, big_1, big_2, big_3, big_4, big_5, big_6, big_7, big_8, big_9, big_10, big_11, big_12, draw_iff, own_ex, val_ex, wipeE, restE, Sl.keep, Option.getD_some, get_z, get_s, set_z, set_s, List.length_cons, List.length_nil, atI_0, atI_1, atI_2, atI_3, atI_4, ixN_5_0, ixN_5_1, ixN_5_2, ixN_5_3, ixN_5_4, D.bl.injEq, D.int.injEq, D.lst.injEq, D.tup.injEq, D.str.injEq, Sl.own.injEq, Sl.val.injEq, Option.some.injEq, exists_eq_left', exists_eq_left, exists_eq', exists_eq, or_true, true_or, or_false, false_or, CMul, CPow, natAbs_10, natAbs_2, Int.cast_ofNat_Int, Nat.reducePow, exists_and_left, exists_const, and_assoc, true_and, and_true, and_self, false_and, and_false, if_true, if_false, ite_true, ite_false, reduceCtorEq, decide_true, decide_false, decide_eq_true_eq, decide_eq_false_iff_not, Bool.not_true, Bool.not_false, Bool.false_eq_true, List.replicate_zero, List.replicate_succ, List.map_cons, List.map_nil, List.nil_append, List.cons_append, Nat.reduceSub, Nat.reduceAdd, Nat.reduceLeDiff, Nat.reduceLT, Int.reduceLT, Int.reduceLE, Int.reduceAdd, Int.reduceSub, Int.reduceMul, Int.reduceNeg, Int.reduceMod, Int.reduceDiv, Int.reducePow, Int.reduceToNat, okD_int, okD_bl, okD_lst, okD_tup, okD_non, okL_nil, okL_cons, okD_str, okL_int, eqD_int, eqD_bl, eqD_str, eqD_tup, eqD_lst, eqL_cons, eqL_nil, eqL_cn, eqL_nc, eqL_int, Bool.and_eq_true, Bool.or_eq_true, Bool.not_eq_true', Bool.and_false, Bool.false_and, Bool.or_false, Bool.false_or, Bool.or_true, Bool.true_or, Bool.and_true, Bool.true_and, Bool.and_self, e2]
        refine ⟨by omega, by omega, hn' (r / (2 + k)) _ (Nat.div_lt_self r1 (by omega)) ⟨⟨Nat.div_pos rl (by omega), Nat.le_trans (Nat.div_le_self _ _) r2, ⟨(2 + k) * c, j + 1, ?_, ?_⟩, fun x x1 x2 x3 x4 => hd x x1 x2 x3 (Nat.dvd_trans x4 (Nat.div_dvd_of_dvd hr))⟩, by rw [Int.natCast_ediv]⟩⟩
        · rw [← Nat.mul_assoc, Nat.div_mul_cancel hr]; exact e
        · rw [Nat.pow_succ, Nat.mul_comm]
          exact Nat.mul_dvd_mul d hdv
      · have e2 : ¬ (r : Int) % ((2 + k : Nat) : Int) = 0 := fun z => hr (Int.natCast_dvd_natCast.mp (Int.dvd_of_emod_eq_zero z))
        simp only [wSeq, wAsg, wOwn, wF, wLc, wSkip, wBrk, wCnt, wRet, wRetF, wRetN, wDrop, wIfS, wPar, wFor, wWh, wV, wApp, wExt, wSetIx, wAug, wVal, wLook, wC, wOp, wTst, wChain, wAnd, wOr, wNot, wAndV, wOrV, wNotV, wIf, wNil, wCons, wTup, wLst, wCall, wCB, wIsT, wiR1, wiR2, wiSq, wiEn, wiZip, gN, gT1, gT2, gT3, gT4, gT5, gT6, gT7, wYes, gAdd, DV.gSub, gMul, gMod, gDiv, gPow, gLt, gLe, gGt, gGe, gCmp, gEq, gNe, gIs, gIsN, isNon, gIn, gNotIn, gIx, gSlc, wSlc, wNoP, wPart, gLen, gAbs, gInt, gMin2, gMax2, gAll, gAny, gSum, gTuple, wNeg, wRev, itemsOf, D.isTy, D.isHand, Sl.toD, big_0, big_1, big_2, big_3, big_4, big_5, big_6, big_7, big_8, big_9, big_10, big_11, big_12, draw_iff, own_ex, val_ex, wipeE, restE, Sl.keep, Option.getD_some, get_z, get_s, set_z, set_s, List.length_cons, List.length_nil, atI_0, atI_1, atI_2, atI_3, atI_4, ixN_5_0, ixN_5_1, ixN_5_2, ixN_5_3, ixN_5_4, D.bl.injEq, D.int.injEq, D.lst.injEq, D.tup.injEq, D.str.injEq, Sl.own.injEq, Sl.val.injEq, Option.some.injEq, exists_eq_left', exists_eq_left, exists_eq', exists_eq, or_true, true_or, or_false, false_or, CMul, CPow, natAbs_10, natAbs_2, Int.cast_ofNat_Int, Nat.reducePow, exists_and_left, exists_const, and_assoc, true_and, and_true, and_self, false_and, and_false, if_true, if_false, ite_true, ite_false, reduceCtorEq, decide_true, decide_false, decide_eq_true_eq, decide_eq_false_iff_not, Bool.not_true, Bool.not_false, Bool.false_eq_true, List.replicate_zero, List.replicate_succ, List.map_cons, List.map_nil, List.nil_append, List.cons_append, Nat.reduceSub, Nat.reduceAdd, Nat.reduceLeDiff, Nat.reduceLT, Int.reduceLT, Int.reduceLE, Int.reduceAdd, Int.reduceSub, Int.reduceMul, Int.reduceNeg, Int.reduceMod, Int.reduceDiv, Int.reducePow, Int.reduceToNat, okD_int, okD_bl, okD_lst, okD_tup, okD_non, okL_nil, okL_cons, okD_str, okL_int, eqD_int, eqD_bl, eqD_str, eqD_tup, eqD_lst, eqL_cons, eqL_nil, eqL_cn, eqL_nc, eqL_int, Bool.and_eq_true, Bool.or_eq_true, Bool.not_eq_true', Bool.and_false, Bool.false_and, Bool.or_false, Bool.false_or, Bool.or_true, Bool.true_or, Bool.and_true, Bool.true_and, Bool.and_self, e2]
        refine hn _ ⟨_, r, ⟨r1, r2, ⟨c, j, e, d⟩, fun x x1 x2 x3 => ?_⟩, rfl⟩
        by_cases hx : x = 2 + k
        · rw [hx]; exact hr
        · exact hd x x1 (by omega) x3
    · have e1 : ¬ (b : Int) % ((2 + k : Nat) : Int) = 0 := fun z => hdv (Int.natCast_dvd_natCast.mp (Int.dvd_of_emod_eq_zero z))
      simp only [wSeq, wAsg, wOwn, wF, wLc, wSkip, wBrk, wCnt, wRet, wRetF, wRetN, wDrop, wIfS, wPar, wFor, wWh, wV, wApp, wExt, wSetIx, wAug, wVal, wLook, wC, wOp, wTst, wChain, wAnd, wOr, wNot, wAndV, wOrV, wNotV, wIf, wNil, wCons, wTup, wLst, wCall, wCB, wIsT, wiR1, wiR2, wiSq, wiEn, wiZip, gN, gT1, gT2, gT3, gT4, gT5, gT6, gT7, wYes, gAdd, DV.gSub, gMul, gMod, gDiv, gPow, gLt, gLe, gGt, gGe, gCmp, gEq, gNe, gIs, gIsN, isNon, gIn, gNotIn, gIx, gSlc, wSlc, wNoP, wPart, gLen, gAbs, gInt, gMin2, gMax2, gAll, gAny, gSum, gTuple, wNeg, wRev, itemsOf, D.isTy, D.isHand, Sl.toD, big_0, big_1, big_2, big_3, big_4, big_5, big_6, big_7, big_8, big_9, big_10, big_11, big_12, draw_iff, own_ex, val_ex, wipeE, restE, Sl.keep, Option.getD_some, get_z, get_s, set_z, set_s, List.length_cons, List.length_nil, atI_0, atI_1, atI_2, atI_3, atI_4, ixN_5_0, ixN_5_1, ixN_5_2, ixN_5_3, ixN_5_4, D.bl.injEq, D.int.injEq, D.lst.injEq, D.tup.injEq, D.str.injEq, Sl.own.injEq, Sl.val.injEq, Option.some.injEq, exists_eq_left', exists_eq_left, exists_eq', exists_eq, or_true, true_or, or_false, false_or, CMul, CPow, natAbs_10, natAbs_2, Int.cast_ofNat_Int, Nat.reducePow, exists_and_left, exists_const, and_assoc, true_and, and_true, and_self, false_and, and_false, if_true, if_false, ite_true, ite_false, reduceCtorEq, decide_true, decide_false, decide_eq_true_eq, decide_eq_false_iff_not, Bool.not_true, Bool.not_false, Bool.false_eq_true, List.replicate_zero, List.replicate_succ, List.map_cons, List.map_nil, List.nil_append, List.cons_append, Nat.reduceSub, Nat.reduceAdd, Nat.reduceLeDiff, Nat.reduceLT, Int.reduceLT, Int.reduceLE, Int.reduceAdd, Int.reduceSub, Int.reduceMul, Int.reduceNeg, Int.reduceMod, Int.reduceDiv, Int.reducePow, Int.reduceToNat, okD_int, okD_bl, okD_lst, okD_tup, okD_non, okL_nil, okL_cons, okD_str, okL_int, eqD_int, eqD_bl, eqD_str, eqD_tup, eqD_lst, eqL_cons, eqL_nil, eqL_cn, eqL_nc, eqL_int, Bool.and_eq_true, Bool.or_eq_true, Bool.not_eq_true', Bool.and_false, Bool.false_and, Bool.or_false, Bool.false_or, Bool.or_true, Bool.true_or, Bool.and_true, Bool.true_and, Bool.and_self, e1]
      refine hn _ ⟨_, m, ⟨m1, m2, ⟨c, j, e, d⟩, fun x x1 x2 x3 => ?_⟩, rfl⟩
      by_cases hx : x = 2 + k
      · rw [hx] at x3; exact absurd x3 hdv
      · exact hd x x1 (by omega) x3
end

end Law

set_option Elab.async false
set_option linter.all false
set_option maxRecDepth 100000
namespace Law
open PySem PySem.Spec PyProof.Rows L2 DV
/-- two places q above p, two gaps -/
def cTwo (b m q p a d : Int) : Bool := decide ((a * b ^ p.toNat + d * b ^ q.toNat) % m = 0)
def fTd (b m q p a d : Int) : Option D := if (¬ d = 0) ∧ cTwo b m q p a d = true then some (D.tup [.str "places", .int p, .int q, .int a, .int d]) else none
def fTa (b m q p a : Int) : Option D := (rangeI (1 - b) b).findSome? (fTd b m q p a)
def fTp (b m q p : Int) : Option D := (rangeI 1 b).findSome? (fTa b m q p)
def fTq (b m q : Int) : Option D := (rangeI 0 q).findSome? (fTp b m q)
def two (b m n : Int) : D := ((rangeI 0 n).findSome? (fTq b m)).getD (.tup [.str "seen"])
theorem two_cases (b m n : Int) : two b m n = .tup [.str "seen"] ∨ ∃ p q a d, 0 ≤ p ∧ p < q ∧ q < n ∧ cTwo b m q p a d = true ∧ 0 ≤ a ∧ a < b ∧ -b < d ∧ d < b ∧ two b m n = .tup [.str "places", .int p, .int q, .int a, .int d] := by
  unfold two
  cases hf : (rangeI 0 n).findSome? (fTq b m) with
  | none => exact .inl rfl
  | some r =>
    obtain ⟨q, hq, h1⟩ := List.exists_of_findSome?_eq_some hf
    unfold fTq at h1
    obtain ⟨p, hp, h2⟩ := List.exists_of_findSome?_eq_some h1
    unfold fTp at h2
    obtain ⟨a, ha, h3⟩ := List.exists_of_findSome?_eq_some h2
    unfold fTa at h3
    obtain ⟨d, hd, h4⟩ := List.exists_of_findSome?_eq_some h3
    rw [mem_rangeI] at hq hp ha hd
    unfold fTd at h4
    split at h4
    · rename_i h5
      cases h4
      exact .inr ⟨p, q, a, d, by omega, by omega, by omega, h5.2, by omega, by omega, by omega, by omega, rfl⟩
    · cases h4
section
variable {Q : D → Prop} {E : Er → Prop}
theorem sp_unseen_two {b m n : Int} (f : FitOk b m) (h1 : 1 ≤ n) (h2 : n ≤ 24) (h : Q (two b m n)) : T_unseen_two [.int b, .int m, .int n] Q E := by
  obtain ⟨g1, g2, g3, g4, g5⟩ := f
  unfold T_unseen_two wFn B_unseen_two
  simp only [wSeq, wAsg, wOwn, wF, wLc, wSkip, wBrk, wCnt, wRet, wRetF, wRetN, wDrop, wIfS, wPar, wFor, wWh, wV, wApp, wExt, wSetIx, wAug, wVal, wLook, wC, wOp, wTst, wChain, wAnd, wOr, wNot, wAndV, wOrV, wNotV, wIf, wNil, wCons, wTup, wLst, wCall, wCB, wIsT, wiR1, wiR2, wiSq, wiEn, wiZip, gN, gT1, gT2, gT3, gT4, gT5, gT6, gT7, wYes, gAdd, DV.gSub, gMul, gMod, gDiv, gPow, gLt, gLe, gGt, gGe, gCmp, gEq, gNe, gIs, gIsN, isNon, gIn, gNotIn, gIx, gSlc, wSlc, wNoP, wPart, gLen, gAbs, gInt, gMin2, gMax2, gAll, gAny, gSum, gTuple, wNeg, wRev, itemsOf, D.isTy, D.isHand, Sl.toD, big_0, big_1, big_2, big_3, big_4, big_5, big_6, big_7, big_8, big_9, big_10, big_11, big_12, draw_iff, own_ex, val_ex, wipeE, restE, Sl.keep, Option.getD_some, get_z, get_s, set_z, set_s, List.length_cons, List.length_nil, atI_0, atI_1, atI_2, atI_3, atI_4, ixN_5_0, ixN_5_1, ixN_5_2, ixN_5_3, ixN_5_4, D.bl.injEq, D.int.injEq, D.lst.injEq, D.tup.injEq, D.str.injEq, Sl.own.injEq, Sl.val.injEq, Option.some.injEq, exists_eq_left', exists_eq_left, exists_eq', exists_eq, or_true, true_or, or_false, false_or, CMul, CPow, natAbs_10, natAbs_2, Int.cast_ofNat_Int, Nat.reducePow, exists_and_left, exists_const, and_assoc, true_and, and_true, and_self, false_and, and_false, if_true, if_false, ite_true, ite_false, reduceCtorEq, decide_true, decide_false, decide_eq_true_eq, decide_eq_false_iff_not, Bool.not_true, Bool.not_false, Bool.false_eq_true, List.replicate_zero, List.replicate_succ, List.map_cons, List.map_nil, List.nil_append, List.cons_append, Nat.reduceSub, Nat.reduceAdd, Nat.reduceLeDiff, Nat.reduceLT, Int.reduceLT, Int.reduceLE, Int.reduceAdd, Int.reduceSub, Int.reduceMul, Int.reduceNeg, Int.reduceMod, Int.reduceDiv, Int.reducePow, Int.reduceToNat, okD_int, okD_bl, okD_lst, okD_tup, okD_non, okL_nil, okL_cons, okD_str, okL_int, eqD_int, eqD_bl, eqD_str, eqD_tup, eqD_lst, eqL_cons, eqL_nil, eqL_cn, eqL_nc, eqL_int, Bool.and_eq_true, Bool.or_eq_true, Bool.not_eq_true', Bool.and_false, Bool.false_and, Bool.or_false, Bool.false_or, Bool.or_true, Bool.true_or, Bool.and_true, Bool.true_and, Bool.and_self, sp_check_fit g1 g2 g3 g4 g5]
  unfold B_unseen_two_2
  simp only [wSeq, wAsg, wOwn, wF, wLc, wSkip, wBrk, wCnt, wRet, wRetF, wRetN, wDrop, wIfS, wPar, wFor, wWh, wV, wApp, wExt, wSetIx, wAug, wVal, wLook, wC, wOp, wTst, wChain, wAnd, wOr, wNot, wAndV, wOrV, wNotV, wIf, wNil, wCons, wTup, wLst, wCall, wCB, wIsT, wiR1, wiR2, wiSq, wiEn, wiZip, gN, gT1, gT2, gT3, gT4, gT5, gT6, gT7, wYes, gAdd, DV.gSub, gMul, gMod, gDiv, gPow, gLt, gLe, gGt, gGe, gCmp, gEq, gNe, gIs, gIsN, isNon, gIn, gNotIn, gIx, gSlc, wSlc, wNoP, wPart, gLen, gAbs, gInt, gMin2, gMax2, gAll, gAny, gSum, gTuple, wNeg, wRev, itemsOf, D.isTy, D.isHand, Sl.toD, big_0, big_1, big_2, big_3, big_4, big_5, big_6, big_7, big_8, big_9, big_10, big_11, big_12, draw_iff, own_ex, val_ex, wipeE, restE, Sl.keep, Option.getD_some, get_z, get_s, set_z, set_s, List.length_cons, List.length_nil, atI_0, atI_1, atI_2, atI_3, atI_4, ixN_5_0, ixN_5_1, ixN_5_2, ixN_5_3, ixN_5_4, D.bl.injEq, D.int.injEq, D.lst.injEq, D.tup.injEq, D.str.injEq, Sl.own.injEq, Sl.val.injEq, Option.some.injEq, exists_eq_left', exists_eq_left, exists_eq', exists_eq, or_true, true_or, or_false, false_or, CMul, CPow, natAbs_10, natAbs_2, Int.cast_ofNat_Int, Nat.reducePow, exists_and_left, exists_const, and_assoc, true_and, and_true, and_self, false_and, and_false, if_true, if_false, ite_true, ite_false, reduceCtorEq, decide_true, decide_false, decide_eq_true_eq, decide_eq_false_iff_not, Bool.not_true, Bool.not_false, Bool.false_eq_true, List.replicate_zero, List.replicate_succ, List.map_cons, List.map_nil, List.nil_append, List.cons_append, Nat.reduceSub, Nat.reduceAdd, Nat.reduceLeDiff, Nat.reduceLT, Int.reduceLT, Int.reduceLE, Int.reduceAdd, Int.reduceSub, Int.reduceMul, Int.reduceNeg, Int.reduceMod, Int.reduceDiv, Int.reducePow, Int.reduceToNat, okD_int, okD_bl, okD_lst, okD_tup, okD_non, okL_nil, okL_cons, okD_str, okL_int, eqD_int, eqD_bl, eqD_str, eqD_tup, eqD_lst, eqL_cons, eqL_nil, eqL_cn, eqL_nc, eqL_int, Bool.and_eq_true, Bool.or_eq_true, Bool.not_eq_true', Bool.and_false, Bool.false_and, Bool.or_false, Bool.false_or, Bool.or_true, Bool.true_or, Bool.and_true, Bool.true_and, Bool.and_self, sp_check_number h1 h2]
  unfold B_unseen_two_3
  (try simp only [wSeq, wAsg, wOwn, wF, wLc, wSkip, wBrk, wCnt, wRet, wRetF, wRetN, wDrop, wIfS, wPar, wFor, wWh, wV, wApp, wExt, wSetIx, wAug, wVal, wLook, wC, wOp, wTst, wChain, wAnd, wOr, wNot, wAndV, wOrV, wNotV, wIf, wNil, wCons, wTup, wLst, wCall, wCB, wIsT, wiR1, wiR2, wiSq, wiEn, wiZip, gN, gT1, gT2, gT3, gT4, gT5, gT6, gT7, wYes, gAdd, DV.gSub, gMul, gMod, gDiv, gPow, gLt, gLe, gGt, gGe, gCmp, gEq, gNe, gIs, gIsN, isNon, gIn, gNotIn, gIx, gSlc, wSlc, wNoP, wPart, gLen, gAbs, gInt, gMin2, gMax2, gAll, gAny, gSum, gTuple, wNeg, wRev, itemsOf, D.isTy, D.isHand, Sl.toD, big_0, big_1, big_2, big_3, big_4, big_5, big_6, big_7, big_8, big_9, big_10, big_11, big_12, draw_iff, own_ex, val_ex, wipeE, restE, Sl.keep, Option.getD_some, get_z, get_s, set_z, set_s, List.length_cons, List.length_nil, atI_0, atI_1, atI_2, atI_3, atI_4, ixN_5_0, ixN_5_1, ixN_5_2, ixN_5_3, ixN_5_4, D.bl.injEq, D.int.injEq, D.lst.injEq, D.tup.injEq, D.str.injEq, Sl.own.injEq, Sl.val.injEq, Option.some.injEq, exists_eq_left', exists_eq_left, exists_eq', exists_eq, or_true, true_or, or_false, false_or, CMul, CPow, natAbs_10, natAbs_2, Int.cast_ofNat_Int, Nat.reducePow, exists_and_left, exists_const, and_assoc, true_and, and_true, and_self, false_and, and_false, if_true, if_false, ite_true, ite_false, reduceCtorEq, decide_true, decide_false, decide_eq_true_eq, decide_eq_false_iff_not, Bool.not_true, Bool.not_false, Bool.false_eq_true, List.replicate_zero, List.replicate_succ, List.map_cons, List.map_nil, List.nil_append, List.cons_append, Nat.reduceSub, Nat.reduceAdd, Nat.reduceLeDiff, Nat.reduceLT, Int.reduceLT, Int.reduceLE, Int.reduceAdd, Int.reduceSub, Int.reduceMul, Int.reduceNeg, Int.reduceMod, Int.reduceDiv, Int.reducePow, Int.reduceToNat, okD_int, okD_bl, okD_lst, okD_tup, okD_non, okL_nil, okL_cons, okD_str, okL_int, eqD_int, eqD_bl, eqD_str, eqD_tup, eqD_lst, eqL_cons, eqL_nil, eqL_cn, eqL_nc, eqL_int, Bool.and_eq_true, Bool.or_eq_true, Bool.not_eq_true', Bool.and_false, Bool.false_and, Bool.or_false, Bool.false_or, Bool.or_true, Bool.true_or, Bool.and_true, Bool.true_and, Bool.and_self])
  refine ⟨by omega, by omega, ?_⟩
  rw [rangeD_map]
  unfold two at h
  refine for_search (fTq b m) (fun env => ∃ s1 s2 s3 s4, env = [.val (.int b), .val (.int m), .val (.int n), s1, s2, s3, s4]) (fun d hd e => ?_) (fun hd e he => ?_) (fun q hq env he P' q1 q2 => ?_) ⟨_, _, _, _, rfl⟩
  · rw [hd] at h; exact h
  · rw [hd] at h
    obtain ⟨s1, s2, s3, s4, rfl⟩ := he
    unfold B_unseen_two_9
    (try simp only [wSeq, wAsg, wOwn, wF, wLc, wSkip, wBrk, wCnt, wRet, wRetF, wRetN, wDrop, wIfS, wPar, wFor, wWh, wV, wApp, wExt, wSetIx, wAug, wVal, wLook, wC, wOp, wTst, wChain, wAnd, wOr, wNot, wAndV, wOrV, wNotV, wIf, wNil, wCons, wTup, wLst, wCall, wCB, wIsT, wiR1, wiR2, wiSq, wiEn, wiZip, gN, gT1, gT2, gT3, gT4, gT5, gT6, gT7, wYes, gAdd, DV.gSub, gMul, gMod, gDiv, gPow, gLt, gLe, gGt, gGe, gCmp, gEq, gNe, gIs, gIsN, isNon, gIn, gNotIn, gIx, gSlc, wSlc, wNoP, wPart, gLen, gAbs, gInt, gMin2, gMax2, gAll, gAny, gSum, gTuple, wNeg, wRev, itemsOf, D.isTy, D.isHand, Sl.toD, big_0, big_1, big_2, big_3, big_4, big_5, big_6, big_7, big_8, big_9, big_10, big_11, big_12, draw_iff, own_ex, val_ex, wipeE, restE, Sl.keep, Option.getD_some, get_z, get_s, set_z, set_s, List.length_cons, List.length_nil, atI_0, atI_1, atI_2, atI_3, atI_4, ixN_5_0, ixN_5_1, ixN_5_2, ixN_5_3, ixN_5_4, D.bl.injEq, D.int.injEq, D.lst.injEq, D.tup.injEq, D.str.injEq, Sl.own.injEq, Sl.val.injEq, Option.some.injEq, exists_eq_left', exists_eq_left, exists_eq', exists_eq, or_true, true_or, or_false, false_or, CMul, CPow, natAbs_10, natAbs_2, Int.cast_ofNat_Int, Nat.reducePow, exists_and_left, exists_const, and_assoc, true_and, and_true, and_self, false_and, and_false, if_true, if_false, ite_true, ite_false, reduceCtorEq, decide_true, decide_false, decide_eq_true_eq, decide_eq_false_iff_not, Bool.not_true, Bool.not_false, Bool.false_eq_true, List.replicate_zero, List.replicate_succ, List.map_cons, List.map_nil, List.nil_append, List.cons_append, Nat.reduceSub, Nat.reduceAdd, Nat.reduceLeDiff, Nat.reduceLT, Int.reduceLT, Int.reduceLE, Int.reduceAdd, Int.reduceSub, Int.reduceMul, Int.reduceNeg, Int.reduceMod, Int.reduceDiv, Int.reducePow, Int.reduceToNat, okD_int, okD_bl, okD_lst, okD_tup, okD_non, okL_nil, okL_cons, okD_str, okL_int, eqD_int, eqD_bl, eqD_str, eqD_tup, eqD_lst, eqL_cons, eqL_nil, eqL_cn, eqL_nc, eqL_int, Bool.and_eq_true, Bool.or_eq_true, Bool.not_eq_true', Bool.and_false, Bool.false_and, Bool.or_false, Bool.false_or, Bool.or_true, Bool.true_or, Bool.and_true, Bool.true_and, Bool.and_self])
    exact h
  obtain ⟨s1, s2, s3, s4, rfl⟩ := he
  rw [mem_rangeI] at hq
  unfold B_unseen_two_4
  (try simp only [wSeq, wAsg, wOwn, wF, wLc, wSkip, wBrk, wCnt, wRet, wRetF, wRetN, wDrop, wIfS, wPar, wFor, wWh, wV, wApp, wExt, wSetIx, wAug, wVal, wLook, wC, wOp, wTst, wChain, wAnd, wOr, wNot, wAndV, wOrV, wNotV, wIf, wNil, wCons, wTup, wLst, wCall, wCB, wIsT, wiR1, wiR2, wiSq, wiEn, wiZip, gN, gT1, gT2, gT3, gT4, gT5, gT6, gT7, wYes, gAdd, DV.gSub, gMul, gMod, gDiv, gPow, gLt, gLe, gGt, gGe, gCmp, gEq, gNe, gIs, gIsN, isNon, gIn, gNotIn, gIx, gSlc, wSlc, wNoP, wPart, gLen, gAbs, gInt, gMin2, gMax2, gAll, gAny, gSum, gTuple, wNeg, wRev, itemsOf, D.isTy, D.isHand, Sl.toD, big_0, big_1, big_2, big_3, big_4, big_5, big_6, big_7, big_8, big_9, big_10, big_11, big_12, draw_iff, own_ex, val_ex, wipeE, restE, Sl.keep, Option.getD_some, get_z, get_s, set_z, set_s, List.length_cons, List.length_nil, atI_0, atI_1, atI_2, atI_3, atI_4, ixN_5_0, ixN_5_1, ixN_5_2, ixN_5_3, ixN_5_4, D.bl.injEq, D.int.injEq, D.lst.injEq, D.tup.injEq, D.str.injEq, Sl.own.injEq, Sl.val.injEq, Option.some.injEq, exists_eq_left', exists_eq_left, exists_eq', exists_eq, or_true, true_or, or_false, false_or, CMul, CPow, natAbs_10, natAbs_2, Int.cast_ofNat_Int, Nat.reducePow, exists_and_left, exists_const, and_assoc, true_and, and_true, and_self, false_and, and_false, if_true, if_false, ite_true, ite_false, reduceCtorEq, decide_true, decide_false, decide_eq_true_eq, decide_eq_false_iff_not, Bool.not_true, Bool.not_false, Bool.false_eq_true, List.replicate_zero, List.replicate_succ, List.map_cons, List.map_nil, List.nil_append, List.cons_append, Nat.reduceSub, Nat.reduceAdd, Nat.reduceLeDiff, Nat.reduceLT, Int.reduceLT, Int.reduceLE, Int.reduceAdd, Int.reduceSub, Int.reduceMul, Int.reduceNeg, Int.reduceMod, Int.reduceDiv, Int.reducePow, Int.reduceToNat, okD_int, okD_bl, okD_lst, okD_tup, okD_non, okL_nil, okL_cons, okD_str, okL_int, eqD_int, eqD_bl, eqD_str, eqD_tup, eqD_lst, eqL_cons, eqL_nil, eqL_cn, eqL_nc, eqL_int, Bool.and_eq_true, Bool.or_eq_true, Bool.not_eq_true', Bool.and_false, Bool.false_and, Bool.or_false, Bool.false_or, Bool.or_true, Bool.true_or, Bool.and_true, Bool.true_and, Bool.and_self])
  refine ⟨by omega, by omega, ?_⟩
  rw [rangeD_map]
  refine for_search (fTp b m q) (fun env => ∃ s2 s3 s4, env = [.val (.int b), .val (.int m), .val (.int n), .val (.int q), s2, s3, s4]) q1 (fun hd e he => q2 hd e ?_) (fun p hp env he P2 q1 q2 => ?_) ⟨_, _, _, rfl⟩
  · obtain ⟨s2, s3, s4, rfl⟩ := he; exact ⟨_, _, _, _, rfl⟩
  obtain ⟨s2, s3, s4, rfl⟩ := he
  rw [mem_rangeI] at hp
  unfold B_unseen_two_5
  (try simp only [wSeq, wAsg, wOwn, wF, wLc, wSkip, wBrk, wCnt, wRet, wRetF, wRetN, wDrop, wIfS, wPar, wFor, wWh, wV, wApp, wExt, wSetIx, wAug, wVal, wLook, wC, wOp, wTst, wChain, wAnd, wOr, wNot, wAndV, wOrV, wNotV, wIf, wNil, wCons, wTup, wLst, wCall, wCB, wIsT, wiR1, wiR2, wiSq, wiEn, wiZip, gN, gT1, gT2, gT3, gT4, gT5, gT6, gT7, wYes, gAdd, DV.gSub, gMul, gMod, gDiv, gPow, gLt, gLe, gGt, gGe, gCmp, gEq, gNe, gIs, gIsN, isNon, gIn, gNotIn, gIx, gSlc, wSlc, wNoP, wPart, gLen, gAbs, gInt, gMin2, gMax2, gAll, gAny, gSum, gTuple, wNeg, wRev, itemsOf, D.isTy, D.isHand, Sl.toD, big_0, big_1, big_2, big_3, big_4, big_5, big_6, big_7, big_8, big_9, big_10, big_11, big_12, draw_iff, own_ex, val_ex, wipeE, restE, Sl.keep, Option.getD_some, get_z, get_s, set_z, set_s, List.length_cons, List.length_nil, atI_0, atI_1, atI_2, atI_3, atI_4, ixN_5_0, ixN_5_1, ixN_5_2, ixN_5_3, ixN_5_4, D.bl.injEq, D.int.injEq, D.lst.injEq, D.tup.injEq, D.str.injEq, Sl.own.injEq, Sl.val.injEq, Option.some.injEq, exists_eq_left', exists_eq_left, exists_eq', exists_eq, or_true, true_or, or_false, false_or, CMul, CPow, natAbs_10, natAbs_2, Int.cast_ofNat_Int, Nat.reducePow, exists_and_left, exists_const, and_assoc, true_and, and_true, and_self, false_and, and_false, if_true, if_false, ite_true, ite_false, reduceCtorEq, decide_true, decide_false, decide_eq_true_eq, decide_eq_false_iff_not, Bool.not_true, Bool.not_false, Bool.false_eq_true, List.replicate_zero, List.replicate_succ, List.map_cons, List.map_nil, List.nil_append, List.cons_append, Nat.reduceSub, Nat.reduceAdd, Nat.reduceLeDiff, Nat.reduceLT, Int.reduceLT, Int.reduceLE, Int.reduceAdd, Int.reduceSub, Int.reduceMul, Int.reduceNeg, Int.reduceMod, Int.reduceDiv, Int.reducePow, Int.reduceToNat, okD_int, okD_bl, okD_lst, okD_tup, okD_non, okL_nil, okL_cons, okD_str, okL_int, eqD_int, eqD_bl, eqD_str, eqD_tup, eqD_lst, eqL_cons, eqL_nil, eqL_cn, eqL_nc, eqL_int, Bool.and_eq_true, Bool.or_eq_true, Bool.not_eq_true', Bool.and_false, Bool.false_and, Bool.or_false, Bool.false_or, Bool.or_true, Bool.true_or, Bool.and_true, Bool.true_and, Bool.and_self])
  refine ⟨by omega, by omega, ?_⟩
  rw [rangeD_map]
  refine for_search (fTa b m q p) (fun env => ∃ s3 s4, env = [.val (.int b), .val (.int m), .val (.int n), .val (.int q), .val (.int p), s3, s4]) q1 (fun hd e he => q2 hd e ?_) (fun a ha env he P2 q1 q2 => ?_) ⟨_, _, rfl⟩
  · obtain ⟨s3, s4, rfl⟩ := he; exact ⟨_, _, _, rfl⟩
  obtain ⟨s3, s4, rfl⟩ := he
  rw [mem_rangeI] at ha
  unfold B_unseen_two_6
  (try simp only [wSeq, wAsg, wOwn, wF, wLc, wSkip, wBrk, wCnt, wRet, wRetF, wRetN, wDrop, wIfS, wPar, wFor, wWh, wV, wApp, wExt, wSetIx, wAug, wVal, wLook, wC, wOp, wTst, wChain, wAnd, wOr, wNot, wAndV, wOrV, wNotV, wIf, wNil, wCons, wTup, wLst, wCall, wCB, wIsT, wiR1, wiR2, wiSq, wiEn, wiZip, gN, gT1, gT2, gT3, gT4, gT5, gT6, gT7, wYes, gAdd, DV.gSub, gMul, gMod, gDiv, gPow, gLt, gLe, gGt, gGe, gCmp, gEq, gNe, gIs, gIsN, isNon, gIn, gNotIn, gIx, gSlc, wSlc, wNoP, wPart, gLen, gAbs, gInt, gMin2, gMax2, gAll, gAny, gSum, gTuple, wNeg, wRev, itemsOf, D.isTy, D.isHand, Sl.toD, big_0, big_1, big_2, big_3, big_4, big_5, big_6, big_7, big_8, big_9, big_10, big_11, big_12, draw_iff, own_ex, val_ex, wipeE, restE, Sl.keep, Option.getD_some, get_z, get_s, set_z, set_s, List.length_cons, List.length_nil, atI_0, atI_1, atI_2, atI_3, atI_4, ixN_5_0, ixN_5_1, ixN_5_2, ixN_5_3, ixN_5_4, D.bl.injEq, D.int.injEq, D.lst.injEq, D.tup.injEq, D.str.injEq, Sl.own.injEq, Sl.val.injEq, Option.some.injEq, exists_eq_left', exists_eq_left, exists_eq', exists_eq, or_true, true_or, or_false, false_or, CMul, CPow, natAbs_10, natAbs_2, Int.cast_ofNat_Int, Nat.reducePow, exists_and_left, exists_const, and_assoc, true_and, and_true, and_self, false_and, and_false, if_true, if_false, ite_true, ite_false, reduceCtorEq, decide_true, decide_false, decide_eq_true_eq, decide_eq_false_iff_not, Bool.not_true, Bool.not_false, Bool.false_eq_true, List.replicate_zero, List.replicate_succ, List.map_cons, List.map_nil, List.nil_append, List.cons_append, Nat.reduceSub, Nat.reduceAdd, Nat.reduceLeDiff, Nat.reduceLT, Int.reduceLT, Int.reduceLE, Int.reduceAdd, Int.reduceSub, Int.reduceMul, Int.reduceNeg, Int.reduceMod, Int.reduceDiv, Int.reducePow, Int.reduceToNat, okD_int, okD_bl, okD_lst, okD_tup, okD_non, okL_nil, okL_cons, okD_str, okL_int, eqD_int, eqD_bl, eqD_str, eqD_tup, eqD_lst, eqL_cons, eqL_nil, eqL_cn, eqL_nc, eqL_int, Bool.and_eq_true, Bool.or_eq_true, Bool.not_eq_true', Bool.and_false, Bool.false_and, Bool.or_false, Bool.false_or, Bool.or_true, Bool.true_or, Bool.and_true, Bool.true_and, Bool.and_self])
  refine ⟨by omega, by omega, by omega, by omega, ?_⟩
  rw [rangeD_map]
  refine for_search (fTd b m q p a) (fun env => ∃ s4, env = [.val (.int b), .val (.int m), .val (.int n), .val (.int q), .val (.int p), .val (.int a), s4]) q1 (fun hd e he => q2 hd e ?_) (fun d hd env he P2 q1 q2 => ?_) ⟨_, rfl⟩
  · obtain ⟨s4, rfl⟩ := he; exact ⟨_, _, rfl⟩
  obtain ⟨s4, rfl⟩ := he
  rw [mem_rangeI] at hd
  unfold B_unseen_two_7
  have e : ((a * (b ^ p.toNat % m) + d * (b ^ q.toNat % m)) % m = 0) = (cTwo b m q p a d = true) := by
    unfold cTwo
    rw [Int.add_emod, emod_mul_r, emod_mul_r, ← Int.add_emod]
    simp
  by_cases hz : d = 0
  · simp only [wSeq, wAsg, wOwn, wF, wLc, wSkip, wBrk, wCnt, wRet, wRetF, wRetN, wDrop, wIfS, wPar, wFor, wWh, wV, wApp, wExt, wSetIx, wAug, wVal, wLook, wC, wOp, wTst, wChain, wAnd, wOr, wNot, wAndV, wOrV, wNotV, wIf, wNil, wCons, wTup, wLst, wCall, wCB, wIsT, wiR1, wiR2, wiSq, wiEn, wiZip, gN, gT1, gT2, gT3, gT4, gT5, gT6, gT7, wYes, gAdd, DV.gSub, gMul, gMod, gDiv, gPow, gLt, gLe, gGt, gGe, gCmp, gEq, gNe, gIs, gIsN, isNon, gIn, gNotIn, gIx, gSlc, wSlc, wNoP, wPart, gLen, gAbs, gInt, gMin2, gMax2, gAll, gAny, gSum, gTuple, wNeg, wRev, itemsOf, D.isTy, D.isHand, Sl.toD, big_0, big_1, big_2, big_3, big_4, big_5, big_6, big_7, big_8, big_9, big_10, big_11, big_12, draw_iff, own_ex, val_ex, wipeE, restE, Sl.keep, Option.getD_some, get_z, get_s, set_z, set_s, List.length_cons, List.length_nil, atI_0, atI_1, atI_2, atI_3, atI_4, ixN_5_0, ixN_5_1, ixN_5_2, ixN_5_3, ixN_5_4, D.bl.injEq, D.int.injEq, D.lst.injEq, D.tup.injEq, D.str.injEq, Sl.own.injEq, Sl.val.injEq, Option.some.injEq, exists_eq_left', exists_eq_left, exists_eq', exists_eq, or_true, true_or, or_false, false_or, CMul, CPow, natAbs_10, natAbs_2, Int.cast_ofNat_Int, Nat.reducePow, exists_and_left, exists_const, and_assoc, true_and, and_true, and_self, false_and, and_false, if_true, if_false, ite_true, ite_false, reduceCtorEq, decide_true, decide_false, decide_eq_true_eq, decide_eq_false_iff_not, Bool.not_true, Bool.not_false, Bool.false_eq_true, List.replicate_zero, List.replicate_succ, List.map_cons, List.map_nil, List.nil_append, List.cons_append, Nat.reduceSub, Nat.reduceAdd, Nat.reduceLeDiff, Nat.reduceLT, Int.reduceLT, Int.reduceLE, Int.reduceAdd, Int.reduceSub, Int.reduceMul, Int.reduceNeg, Int.reduceMod, Int.reduceDiv, Int.reducePow, Int.reduceToNat, okD_int, okD_bl, okD_lst, okD_tup, okD_non, okL_nil, okL_cons, okD_str, okL_int, eqD_int, eqD_bl, eqD_str, eqD_tup, eqD_lst, eqL_cons, eqL_nil, eqL_cn, eqL_nc, eqL_int, Bool.and_eq_true, Bool.or_eq_true, Bool.not_eq_true', Bool.and_false, Bool.false_and, Bool.or_false, Bool.false_or, Bool.or_true, Bool.true_or, Bool.and_true, Bool.true_and, Bool.and_self, hz]
    subst hz
    exact q2 (if_neg (by simp)) _ ⟨_, rfl⟩
  · simp only [wSeq, wAsg, wOwn, wF, wLc, wSkip, wBrk, wCnt, wRet, wRetF, wRetN, wDrop, wIfS, wPar, wFor, wWh, wV, wApp, wExt, wSetIx, wAug, wVal, wLook, wC, wOp, wTst, wChain, wAnd, wOr, wNot, wAndV, wOrV, wNotV, wIf, wNil, wCons, wTup, wLst, wCall, wCB, wIsT, wiR1, wiR2, wiSq, wiEn, wiZip, gN, gT1, gT2, gT3, gT4, gT5, gT6, gT7, wYes, gAdd, DV.gSub, gMul, gMod, gDiv, gPow, gLt, gLe, gGt, gGe, gCmp, gEq, gNe, gIs, gIsN, isNon, gIn, gNotIn, gIx, gSlc, wSlc, wNoP, wPart, gLen, gAbs, gInt, gMin2, gMax2, gAll, gAny, gSum, gTuple, wNeg, wRev, itemsOf, D.isTy, D.isHand, Sl.toD, big_0, big_1, big_2, big_3, big_4, big_5, big_6, big_7, big_8, big_9, big_10, big_11, big_12, draw_iff, own_ex, val_ex, wipeE, restE, Sl.keep, Option.getD_some, get_z, get_s, set_z, set_s, List.length_cons, List.length_nil, atI_0, atI_1, atI_2, atI_3, atI_4, ixN_5_0, ixN_5_1, ixN_5_2, ixN_5_3, ixN_5_4, D.bl.injEq, D.int.injEq, D.lst.injEq, D.tup.injEq, D.str.injEq, Sl.own.injEq, Sl.val.injEq, Option.some.injEq, exists_eq_left', exists_eq_left, exists_eq', exists_eq, or_true, true_or, or_false, false_or, CMul, CPow, natAbs_10, natAbs_2, Int.cast_ofNat_Int, Nat.reducePow, exists_and_left, exists_const, and_assoc, true_and, and_true, and_self, false_and, and_false, if_true, if_false, ite_true, ite_false, reduceCtorEq, decide_true, decide_false, decide_eq_true_eq, decide_eq_false_iff_not, Bool.not_true, Bool.not_false, Bool.false_eq_true, List.replicate_zero, List.replicate_succ, List.map_cons, List.map_nil, List.nil_append, List.cons_append, Nat.reduceSub, Nat.reduceAdd, Nat.reduceLeDiff, Nat.reduceLT, Int.reduceLT, Int.reduceLE, Int.reduceAdd, Int.reduceSub, Int.reduceMul, Int.reduceNeg, Int.reduceMod, Int.reduceDiv, Int.reducePow, Int.reduceToNat, okD_int, okD_bl, okD_lst, okD_tup, okD_non, okL_nil, okL_cons, okD_str, okL_int, eqD_int, eqD_bl, eqD_str, eqD_tup, eqD_lst, eqL_cons, eqL_nil, eqL_cn, eqL_nc, eqL_int, Bool.and_eq_true, Bool.or_eq_true, Bool.not_eq_true', Bool.and_false, Bool.false_and, Bool.or_false, Bool.false_or, Bool.or_true, Bool.true_or, Bool.and_true, Bool.true_and, Bool.and_self, hz]
    refine sp_power_rest (by omega) (by omega) (by omega) ?_
    (try simp only [wSeq, wAsg, wOwn, wF, wLc, wSkip, wBrk, wCnt, wRet, wRetF, wRetN, wDrop, wIfS, wPar, wFor, wWh, wV, wApp, wExt, wSetIx, wAug, wVal, wLook, wC, wOp, wTst, wChain, wAnd, wOr, wNot, wAndV, wOrV, wNotV, wIf, wNil, wCons, wTup, wLst, wCall, wCB, wIsT, wiR1, wiR2, wiSq, wiEn, wiZip, gN, gT1, gT2, gT3, gT4, gT5, gT6, gT7, wYes, gAdd, DV.gSub, gMul, gMod, gDiv, gPow, gLt, gLe, gGt, gGe, gCmp, gEq, gNe, gIs, gIsN, isNon, gIn, gNotIn, gIx, gSlc, wSlc, wNoP, wPart, gLen, gAbs, gInt, gMin2, gMax2, gAll, gAny, gSum, gTuple, wNeg, wRev, itemsOf, D.isTy, D.isHand, Sl.toD, big_0, big_1, big_2, big_3, big_4, big_5, big_6, big_7, big_8, big_9, big_10, big_11, big_12, draw_iff, own_ex, val_ex, wipeE, restE, Sl.keep, Option.getD_some, get_z, get_s, set_z, set_s, List.length_cons, List.length_nil, atI_0, atI_1, atI_2, atI_3, atI_4, ixN_5_0, ixN_5_1, ixN_5_2, ixN_5_3, ixN_5_4, D.bl.injEq, D.int.injEq, D.lst.injEq, D.tup.injEq, D.str.injEq, Sl.own.injEq, Sl.val.injEq, Option.some.injEq, exists_eq_left', exists_eq_left, exists_eq', exists_eq, or_true, true_or, or_false, false_or, CMul, CPow, natAbs_10, natAbs_2, Int.cast_ofNat_Int, Nat.reducePow, exists_and_left, exists_const, and_assoc, true_and, and_true, and_self, false_and, and_false, if_true, if_false, ite_true, ite_false, reduceCtorEq, decide_true, decide_false, decide_eq_true_eq, decide_eq_false_iff_not, Bool.not_true, Bool.not_false, Bool.false_eq_true, List.replicate_zero, List.replicate_succ, List.map_cons, List.map_nil, List.nil_append, List.cons_append, Nat.reduceSub, Nat.reduceAdd, Nat.reduceLeDiff, Nat.reduceLT, Int.reduceLT, Int.reduceLE, Int.reduceAdd, Int.reduceSub, Int.reduceMul, Int.reduceNeg, Int.reduceMod, Int.reduceDiv, Int.reducePow, Int.reduceToNat, okD_int, okD_bl, okD_lst, okD_tup, okD_non, okL_nil, okL_cons, okD_str, okL_int, eqD_int, eqD_bl, eqD_str, eqD_tup, eqD_lst, eqL_cons, eqL_nil, eqL_cn, eqL_nc, eqL_int, Bool.and_eq_true, Bool.or_eq_true, Bool.not_eq_true', Bool.and_false, Bool.false_and, Bool.or_false, Bool.false_or, Bool.or_true, Bool.true_or, Bool.and_true, Bool.true_and, Bool.and_self])
    refine ⟨.inl ⟨by omega, by omega⟩, ?_⟩
    refine sp_power_rest (by omega) (by omega) (by omega) ?_
    simp only [wSeq, wAsg, wOwn, wF, wLc, wSkip, wBrk, wCnt, wRet, wRetF, wRetN, wDrop, wIfS, wPar, wFor, wWh, wV, wApp, wExt, wSetIx, wAug, wVal, wLook, wC, wOp, wTst, wChain, wAnd, wOr, wNot, wAndV, wOrV, wNotV, wIf, wNil, wCons, wTup, wLst, wCall, wCB, wIsT, wiR1, wiR2, wiSq, wiEn, wiZip, gN, gT1, gT2, gT3, gT4, gT5, gT6, gT7, wYes, gAdd, DV.gSub, gMul, gMod, gDiv, gPow, gLt, gLe, gGt, gGe, gCmp, gEq, gNe, gIs, gIsN, isNon, gIn, gNotIn, gIx, gSlc, wSlc, wNoP, wPart, gLen, gAbs, gInt, gMin2, gMax2, gAll, gAny, gSum, gTuple, wNeg, wRev, itemsOf, D.isTy, D.isHand, Sl.toD, big_0, big_1, big_2, big_3, big_4, big_5, big_6, big_7, big_8, big_9, big_10, big_11, big_12, draw_iff, own_ex, val_ex, wipeE, restE, Sl.keep, Option.getD_some, get_z, get_s, set_z, set_s, List.length_cons, List.length_nil, atI_0, atI_1, atI_2, atI_3, atI_4, ixN_5_0, ixN_5_1, ixN_5_2, ixN_5_3, ixN_5_4, D.bl.injEq, D.int.injEq, D.lst.injEq, D.tup.injEq, D.str.injEq, Sl.own.injEq, Sl.val.injEq, Option.some.injEq, exists_eq_left', exists_eq_left, exists_eq', exists_eq, or_true, true_or, or_false, false_or, CMul, CPow, natAbs_10, natAbs_2, Int.cast_ofNat_Int, Nat.reducePow, exists_and_left, exists_const, and_assoc, true_and, and_true, and_self, false_and, and_false, if_true, if_false, ite_true, ite_false, reduceCtorEq, decide_true, decide_false, decide_eq_true_eq, decide_eq_false_iff_not, Bool.not_true, Bool.not_false, Bool.false_eq_true, List.replicate_zero, List.replicate_succ, List.map_cons, List.map_nil, List.nil_append, List.cons_append, Nat.reduceSub, Nat.reduceAdd, Nat.reduceLeDiff, Nat.reduceLT, Int.reduceLT, Int.reduceLE, Int.reduceAdd, Int.reduceSub, Int.reduceMul, Int.reduceNeg, Int.reduceMod, Int.reduceDiv, Int.reducePow, Int.reduceToNat, okD_int, okD_bl, okD_lst, okD_tup, okD_non, okL_nil, okL_cons, okD_str, okL_int, eqD_int, eqD_bl, eqD_str, eqD_tup, eqD_lst, eqL_cons, eqL_nil, eqL_cn, eqL_nc, eqL_int, Bool.and_eq_true, Bool.or_eq_true, Bool.not_eq_true', Bool.and_false, Bool.false_and, Bool.or_false, Bool.false_or, Bool.or_true, Bool.true_or, Bool.and_true, Bool.true_and, Bool.and_self, e]
    refine ⟨.inl ⟨by omega, by omega⟩, by omega, ?_⟩
    split
    · rename_i hc
      exact q1 _ (if_pos ⟨hz, hc⟩) _
    · rename_i hc
      exact q2 (if_neg fun z => hc z.2) _ ⟨_, rfl⟩
theorem find_filter {α β : Type} {P : α → Bool} {f : α → β} : ∀ xs : List α, xs.findSome? (fun x => if P x = true then some (f x) else none) = ((xs.filter P).head?).map f
  | [] => rfl
  | x :: xs => by
    rw [List.findSome?_cons, List.filter_cons]
    by_cases h : P x = true
    · rw [if_pos h, if_pos h]; rfl
    · rw [if_neg h, if_neg h]; exact find_filter xs
theorem flat_filter {P : Int → Bool} (xs : List Int) : (xs.map D.int).flatMap (fun x => match x with | .int d => if P d = true then [.int d] else [] | _ => []) = (xs.filter P).map D.int := by
  induction xs with
  | nil => rfl
  | cons x xs ih =>
    rw [List.map_cons, List.flatMap_cons, ih, List.filter_cons]
    show (if P x = true then [D.int x] else []) ++ _ = _
    by_cases h : P x = true
    · rw [if_pos h, if_pos h]; rfl
    · rw [if_neg h, if_neg h]; rfl
theorem sp_law_two {b m n : Int} (f : FitOk b m) (h1 : 1 ≤ n) (h2 : n ≤ 24) (h : Q (two b m n)) : T__law_two [.int b, .int m, .int n] Q E := by
  obtain ⟨g1, g2, g3, g4, g5⟩ := f
  unfold T__law_two wFn B__law_two
  simp only [wSeq, wAsg, wOwn, wF, wLc, wSkip, wBrk, wCnt, wRet, wRetF, wRetN, wDrop, wIfS, wPar, wFor, wWh, wV, wApp, wExt, wSetIx, wAug, wVal, wLook, wC, wOp, wTst, wChain, wAnd, wOr, wNot, wAndV, wOrV, wNotV, wIf, wNil, wCons, wTup, wLst, wCall, wCB, wIsT, wiR1, wiR2, wiSq, wiEn, wiZip, gN, gT1, gT2, gT3, gT4, gT5, gT6, gT7, wYes, gAdd, DV.gSub, gMul, gMod, gDiv, gPow, gLt, gLe, gGt, gGe, gCmp, gEq, gNe, gIs, gIsN, isNon, gIn, gNotIn, gIx, gSlc, wSlc, wNoP, wPart, gLen, gAbs, gInt, gMin2, gMax2, gAll, gAny, gSum, gTuple, wNeg, wRev, itemsOf, D.isTy, D.isHand, Sl.toD, big_0, big_1, big_2, big_3, big_4, big_5, big_6, big_7, big_8, big_9, big_10, big_11, big_12, draw_iff, own_ex, val_ex, wipeE, restE, Sl.keep, Option.getD_some, get_z, get_s, set_z, set_s, List.length_cons, List.length_nil, atI_0, atI_1, atI_2, atI_3, atI_4, ixN_5_0, ixN_5_1, ixN_5_2, ixN_5_3, ixN_5_4, D.bl.injEq, D.int.injEq, D.lst.injEq, D.tup.injEq, D.str.injEq, Sl.own.injEq, Sl.val.injEq, Option.some.injEq, exists_eq_left', exists_eq_left, exists_eq', exists_eq, or_true, true_or, or_false, false_or, CMul, CPow, natAbs_10, natAbs_2, Int.cast_ofNat_Int, Nat.reducePow, exists_and_left, exists_const, and_assoc, true_and, and_true, and_self, false_and, and_false, if_true, if_false, ite_true, ite_false, reduceCtorEq, decide_true, decide_false, decide_eq_true_eq, decide_eq_false_iff_not, Bool.not_true, Bool.not_false, Bool.false_eq_true, List.replicate_zero, List.replicate_succ, List.map_cons, List.map_nil, List.nil_append, List.cons_append, Nat.reduceSub, Nat.reduceAdd, Nat.reduceLeDiff, Nat.reduceLT, Int.reduceLT, Int.reduceLE, Int.reduceAdd, Int.reduceSub, Int.reduceMul, Int.reduceNeg, Int.reduceMod, Int.reduceDiv, Int.reducePow, Int.reduceToNat, okD_int, okD_bl, okD_lst, okD_tup, okD_non, okL_nil, okL_cons, okD_str, okL_int, eqD_int, eqD_bl, eqD_str, eqD_tup, eqD_lst, eqL_cons, eqL_nil, eqL_cn, eqL_nc, eqL_int, Bool.and_eq_true, Bool.or_eq_true, Bool.not_eq_true', Bool.and_false, Bool.false_and, Bool.or_false, Bool.false_or, Bool.or_true, Bool.true_or, Bool.and_true, Bool.true_and, Bool.and_self, rangeD_len]
  refine ⟨by omega, by omega, by omega, by omega, by unfold big; omega, ?_⟩
  rw [rangeD_map]
  let sz := (rangeI (1 - b) b).filter fun x => decide (¬ x = 0)
  refine lc_flat (fun x => match x with | .int d => if decide (¬ d = 0) = true then [.int d] else [] | _ => []) (env := [.val (.int b), .val (.int m), .val (.int n), .no, .no, .no, .no, .no, .no, .no, .no]) (fun x hx K' hk => ?_) ?_
  · obtain ⟨d, _, rfl⟩ := List.mem_map.mp hx
    (try simp only [wSeq, wAsg, wOwn, wF, wLc, wSkip, wBrk, wCnt, wRet, wRetF, wRetN, wDrop, wIfS, wPar, wFor, wWh, wV, wApp, wExt, wSetIx, wAug, wVal, wLook, wC, wOp, wTst, wChain, wAnd, wOr, wNot, wAndV, wOrV, wNotV, wIf, wNil, wCons, wTup, wLst, wCall, wCB, wIsT, wiR1, wiR2, wiSq, wiEn, wiZip, gN, gT1, gT2, gT3, gT4, gT5, gT6, gT7, wYes, gAdd, DV.gSub, gMul, gMod, gDiv, gPow, gLt, gLe, gGt, gGe, gCmp, gEq, gNe, gIs, gIsN, isNon, gIn, gNotIn, gIx, gSlc, wSlc, wNoP, wPart, gLen, gAbs, gInt, gMin2, gMax2, gAll, gAny, gSum, gTuple, wNeg, wRev, itemsOf, D.isTy, D.isHand, Sl.toD, big_0, big_1, big_2, big_3, big_4, big_5, big_6, big_7, big_8, big_9, big_10, big_11, big_12, draw_iff, own_ex, val_ex, wipeE, restE, Sl.keep, Option.getD_some, get_z, get_s, set_z, set_s, List.length_cons, List.length_nil, atI_0, atI_1, atI_2, atI_3, atI_4, ixN_5_0, ixN_5_1, ixN_5_2, ixN_5_3, ixN_5_4, D.bl.injEq, D.int.injEq, D.lst.injEq, D.tup.injEq, D.str.injEq, Sl.own.injEq, Sl.val.injEq, Option.some.injEq, exists_eq_left', exists_eq_left, exists_eq', exists_eq, or_true, true_or, or_false, false_or, CMul, CPow, natAbs_10, natAbs_2, Int.cast_ofNat_Int, Nat.reducePow, exists_and_left, exists_const, and_assoc, true_and, and_true, and_self, false_and, and_false, if_true, if_false, ite_true, ite_false, reduceCtorEq, decide_true, decide_false, decide_eq_true_eq, decide_eq_false_iff_not, Bool.not_true, Bool.not_false, Bool.false_eq_true, List.replicate_zero, List.replicate_succ, List.map_cons, List.map_nil, List.nil_append, List.cons_append, Nat.reduceSub, Nat.reduceAdd, Nat.reduceLeDiff, Nat.reduceLT, Int.reduceLT, Int.reduceLE, Int.reduceAdd, Int.reduceSub, Int.reduceMul, Int.reduceNeg, Int.reduceMod, Int.reduceDiv, Int.reducePow, Int.reduceToNat, okD_int, okD_bl, okD_lst, okD_tup, okD_non, okL_nil, okL_cons, okD_str, okL_int, eqD_int, eqD_bl, eqD_str, eqD_tup, eqD_lst, eqL_cons, eqL_nil, eqL_cn, eqL_nc, eqL_int, Bool.and_eq_true, Bool.or_eq_true, Bool.not_eq_true', Bool.and_false, Bool.false_and, Bool.or_false, Bool.false_or, Bool.or_true, Bool.true_or, Bool.and_true, Bool.true_and, Bool.and_self])
    by_cases hd : d = 0
    · subst hd
      (try simp only [wSeq, wAsg, wOwn, wF, wLc, wSkip, wBrk, wCnt, wRet, wRetF, wRetN, wDrop, wIfS, wPar, wFor, wWh, wV, wApp, wExt, wSetIx, wAug, wVal, wLook, wC, wOp, wTst, wChain, wAnd, wOr, wNot, wAndV, wOrV, wNotV, wIf, wNil, wCons, wTup, wLst, wCall, wCB, wIsT, wiR1, wiR2, wiSq, wiEn, wiZip, gN, gT1, gT2, gT3, gT4, gT5, gT6, gT7, wYes, gAdd, DV.gSub, gMul, gMod, gDiv, gPow, gLt, gLe, gGt, gGe, gCmp, gEq, gNe, gIs, gIsN, isNon, gIn, gNotIn, gIx, gSlc, wSlc, wNoP, wPart, gLen, gAbs, gInt, gMin2, gMax2, gAll, gAny, gSum, gTuple, wNeg, wRev, itemsOf, D.isTy, D.isHand, Sl.toD, big_0, big_1, big_2, big_3, big_4, big_5, big_6, big_7, big_8, big_9, big_10, big_11, big_12, draw_iff, own_ex, val_ex, wipeE, restE, Sl.keep, Option.getD_some, get_z, get_s, set_z, set_s, List.length_cons, List.length_nil, atI_0, atI_1, atI_2, atI_3, atI_4, ixN_5_0, ixN_5_1, ixN_5_2, ixN_5_3, ixN_5_4, D.bl.injEq, D.int.injEq, D.lst.injEq, D.tup.injEq, D.str.injEq, Sl.own.injEq, Sl.val.injEq, Option.some.injEq, exists_eq_left', exists_eq_left, exists_eq', exists_eq, or_true, true_or, or_false, false_or, CMul, CPow, natAbs_10, natAbs_2, Int.cast_ofNat_Int, Nat.reducePow, exists_and_left, exists_const, and_assoc, true_and, and_true, and_self, false_and, and_false, if_true, if_false, ite_true, ite_false, reduceCtorEq, decide_true, decide_false, decide_eq_true_eq, decide_eq_false_iff_not, Bool.not_true, Bool.not_false, Bool.false_eq_true, List.replicate_zero, List.replicate_succ, List.map_cons, List.map_nil, List.nil_append, List.cons_append, Nat.reduceSub, Nat.reduceAdd, Nat.reduceLeDiff, Nat.reduceLT, Int.reduceLT, Int.reduceLE, Int.reduceAdd, Int.reduceSub, Int.reduceMul, Int.reduceNeg, Int.reduceMod, Int.reduceDiv, Int.reducePow, Int.reduceToNat, okD_int, okD_bl, okD_lst, okD_tup, okD_non, okL_nil, okL_cons, okD_str, okL_int, eqD_int, eqD_bl, eqD_str, eqD_tup, eqD_lst, eqL_cons, eqL_nil, eqL_cn, eqL_nc, eqL_int, Bool.and_eq_true, Bool.or_eq_true, Bool.not_eq_true', Bool.and_false, Bool.false_and, Bool.or_false, Bool.false_or, Bool.or_true, Bool.true_or, Bool.and_true, Bool.true_and, Bool.and_self])
      exact hk
    · simp only [wSeq, wAsg, wOwn, wF, wLc, wSkip, wBrk, wCnt, wRet, wRetF, wRetN, wDrop, wIfS, wPar, wFor, wWh, wV, wApp, wExt, wSetIx, wAug, wVal, wLook, wC, wOp, wTst, wChain, wAnd, wOr, wNot, wAndV, wOrV, wNotV, wIf, wNil, wCons, wTup, wLst, wCall, wCB, wIsT, wiR1, wiR2, wiSq, wiEn, wiZip, gN, gT1, gT2, gT3, gT4, gT5, gT6, gT7, wYes, gAdd, DV.gSub, gMul, gMod, gDiv, gPow, gLt, gLe, gGt, gGe, gCmp, gEq, gNe, gIs, gIsN, isNon, gIn, gNotIn, gIx, gSlc, wSlc, wNoP, wPart, gLen, gAbs, gInt, gMin2, gMax2, gAll, gAny, gSum, gTuple, wNeg, wRev, itemsOf, D.isTy, D.isHand, Sl.toD, big_0, big_1, big_2, big_3, big_4, big_5, big_6, big_7, big_8, big_9, big_10, big_11, big_12, draw_iff, own_ex, val_ex, wipeE, restE, Sl.keep, Option.getD_some, get_z, get_s, set_z, set_s, List.length_cons, List.length_nil, atI_0, atI_1, atI_2, atI_3, atI_4, ixN_5_0, ixN_5_1, ixN_5_2, ixN_5_3, ixN_5_4, D.bl.injEq, D.int.injEq, D.lst.injEq, D.tup.injEq, D.str.injEq, Sl.own.injEq, Sl.val.injEq, Option.some.injEq, exists_eq_left', exists_eq_left, exists_eq', exists_eq, or_true, true_or, or_false, false_or, CMul, CPow, natAbs_10, natAbs_2, Int.cast_ofNat_Int, Nat.reducePow, exists_and_left, exists_const, and_assoc, true_and, and_true, and_self, false_and, and_false, if_true, if_false, ite_true, ite_false, reduceCtorEq, decide_true, decide_false, decide_eq_true_eq, decide_eq_false_iff_not, Bool.not_true, Bool.not_false, Bool.false_eq_true, List.replicate_zero, List.replicate_succ, List.map_cons, List.map_nil, List.nil_append, List.cons_append, Nat.reduceSub, Nat.reduceAdd, Nat.reduceLeDiff, Nat.reduceLT, Int.reduceLT, Int.reduceLE, Int.reduceAdd, Int.reduceSub, Int.reduceMul, Int.reduceNeg, Int.reduceMod, Int.reduceDiv, Int.reducePow, Int.reduceToNat, okD_int, okD_bl, okD_lst, okD_tup, okD_non, okL_nil, okL_cons, okD_str, okL_int, eqD_int, eqD_bl, eqD_str, eqD_tup, eqD_lst, eqL_cons, eqL_nil, eqL_cn, eqL_nc, eqL_int, Bool.and_eq_true, Bool.or_eq_true, Bool.not_eq_true', Bool.and_false, Bool.false_and, Bool.or_false, Bool.false_or, Bool.or_true, Bool.true_or, Bool.and_true, Bool.true_and, Bool.and_self, hd]
      simp only [hd, not_false_eq_true, decide_true, if_true] at hk
      exact hk
  rw [flat_filter (P := fun d => decide (¬ d = 0)), List.nil_append]
  intro _
  (try simp only [wSeq, wAsg, wOwn, wF, wLc, wSkip, wBrk, wCnt, wRet, wRetF, wRetN, wDrop, wIfS, wPar, wFor, wWh, wV, wApp, wExt, wSetIx, wAug, wVal, wLook, wC, wOp, wTst, wChain, wAnd, wOr, wNot, wAndV, wOrV, wNotV, wIf, wNil, wCons, wTup, wLst, wCall, wCB, wIsT, wiR1, wiR2, wiSq, wiEn, wiZip, gN, gT1, gT2, gT3, gT4, gT5, gT6, gT7, wYes, gAdd, DV.gSub, gMul, gMod, gDiv, gPow, gLt, gLe, gGt, gGe, gCmp, gEq, gNe, gIs, gIsN, isNon, gIn, gNotIn, gIx, gSlc, wSlc, wNoP, wPart, gLen, gAbs, gInt, gMin2, gMax2, gAll, gAny, gSum, gTuple, wNeg, wRev, itemsOf, D.isTy, D.isHand, Sl.toD, big_0, big_1, big_2, big_3, big_4, big_5, big_6, big_7, big_8, big_9, big_10, big_11, big_12, draw_iff, own_ex, val_ex, wipeE, restE, Sl.keep, Option.getD_some, get_z, get_s, set_z, set_s, List.length_cons, List.length_nil, atI_0, atI_1, atI_2, atI_3, atI_4, ixN_5_0, ixN_5_1, ixN_5_2, ixN_5_3, ixN_5_4, D.bl.injEq, D.int.injEq, D.lst.injEq, D.tup.injEq, D.str.injEq, Sl.own.injEq, Sl.val.injEq, Option.some.injEq, exists_eq_left', exists_eq_left, exists_eq', exists_eq, or_true, true_or, or_false, false_or, CMul, CPow, natAbs_10, natAbs_2, Int.cast_ofNat_Int, Nat.reducePow, exists_and_left, exists_const, and_assoc, true_and, and_true, and_self, false_and, and_false, if_true, if_false, ite_true, ite_false, reduceCtorEq, decide_true, decide_false, decide_eq_true_eq, decide_eq_false_iff_not, Bool.not_true, Bool.not_false, Bool.false_eq_true, List.replicate_zero, List.replicate_succ, List.map_cons, List.map_nil, List.nil_append, List.cons_append, Nat.reduceSub, Nat.reduceAdd, Nat.reduceLeDiff, Nat.reduceLT, Int.reduceLT, Int.reduceLE, Int.reduceAdd, Int.reduceSub, Int.reduceMul, Int.reduceNeg, Int.reduceMod, Int.reduceDiv, Int.reducePow, Int.reduceToNat, okD_int, okD_bl, okD_lst, okD_tup, okD_non, okL_nil, okL_cons, okD_str, okL_int, eqD_int, eqD_bl, eqD_str, eqD_tup, eqD_lst, eqL_cons, eqL_nil, eqL_cn, eqL_nc, eqL_int, Bool.and_eq_true, Bool.or_eq_true, Bool.not_eq_true', Bool.and_false, Bool.false_and, Bool.or_false, Bool.false_or, Bool.or_true, Bool.true_or, Bool.and_true, Bool.true_and, Bool.and_self])
  unfold B__law_two_2
  (try simp only [wSeq, wAsg, wOwn, wF, wLc, wSkip, wBrk, wCnt, wRet, wRetF, wRetN, wDrop, wIfS, wPar, wFor, wWh, wV, wApp, wExt, wSetIx, wAug, wVal, wLook, wC, wOp, wTst, wChain, wAnd, wOr, wNot, wAndV, wOrV, wNotV, wIf, wNil, wCons, wTup, wLst, wCall, wCB, wIsT, wiR1, wiR2, wiSq, wiEn, wiZip, gN, gT1, gT2, gT3, gT4, gT5, gT6, gT7, wYes, gAdd, DV.gSub, gMul, gMod, gDiv, gPow, gLt, gLe, gGt, gGe, gCmp, gEq, gNe, gIs, gIsN, isNon, gIn, gNotIn, gIx, gSlc, wSlc, wNoP, wPart, gLen, gAbs, gInt, gMin2, gMax2, gAll, gAny, gSum, gTuple, wNeg, wRev, itemsOf, D.isTy, D.isHand, Sl.toD, big_0, big_1, big_2, big_3, big_4, big_5, big_6, big_7, big_8, big_9, big_10, big_11, big_12, draw_iff, own_ex, val_ex, wipeE, restE, Sl.keep, Option.getD_some, get_z, get_s, set_z, set_s, List.length_cons, List.length_nil, atI_0, atI_1, atI_2, atI_3, atI_4, ixN_5_0, ixN_5_1, ixN_5_2, ixN_5_3, ixN_5_4, D.bl.injEq, D.int.injEq, D.lst.injEq, D.tup.injEq, D.str.injEq, Sl.own.injEq, Sl.val.injEq, Option.some.injEq, exists_eq_left', exists_eq_left, exists_eq', exists_eq, or_true, true_or, or_false, false_or, CMul, CPow, natAbs_10, natAbs_2, Int.cast_ofNat_Int, Nat.reducePow, exists_and_left, exists_const, and_assoc, true_and, and_true, and_self, false_and, and_false, if_true, if_false, ite_true, ite_false, reduceCtorEq, decide_true, decide_false, decide_eq_true_eq, decide_eq_false_iff_not, Bool.not_true, Bool.not_false, Bool.false_eq_true, List.replicate_zero, List.replicate_succ, List.map_cons, List.map_nil, List.nil_append, List.cons_append, Nat.reduceSub, Nat.reduceAdd, Nat.reduceLeDiff, Nat.reduceLT, Int.reduceLT, Int.reduceLE, Int.reduceAdd, Int.reduceSub, Int.reduceMul, Int.reduceNeg, Int.reduceMod, Int.reduceDiv, Int.reducePow, Int.reduceToNat, okD_int, okD_bl, okD_lst, okD_tup, okD_non, okL_nil, okL_cons, okD_str, okL_int, eqD_int, eqD_bl, eqD_str, eqD_tup, eqD_lst, eqL_cons, eqL_nil, eqL_cn, eqL_nc, eqL_int, Bool.and_eq_true, Bool.or_eq_true, Bool.not_eq_true', Bool.and_false, Bool.false_and, Bool.or_false, Bool.false_or, Bool.or_true, Bool.true_or, Bool.and_true, Bool.true_and, Bool.and_self])
  refine ⟨by omega, by omega, ?_⟩
  rw [rangeD_map]
  unfold two at h
  refine for_search (fTq b m) (fun env => ∃ s1 s2 s3 s4 s5, env = [.val (.int b), .val (.int m), .val (.int n), .val (.lst (sz.map D.int)), s1, s2, s3, s4, s5, .no, .no]) (fun d hd e => ?_) (fun hd e he => ?_) (fun q hq env he P' q1 q2 => ?_) ⟨_, _, _, _, _, rfl⟩
  · rw [hd] at h; exact h
  · rw [hd] at h
    obtain ⟨s1, s2, s3, s4, s5, rfl⟩ := he
    unfold B__law_two_9
    (try simp only [wSeq, wAsg, wOwn, wF, wLc, wSkip, wBrk, wCnt, wRet, wRetF, wRetN, wDrop, wIfS, wPar, wFor, wWh, wV, wApp, wExt, wSetIx, wAug, wVal, wLook, wC, wOp, wTst, wChain, wAnd, wOr, wNot, wAndV, wOrV, wNotV, wIf, wNil, wCons, wTup, wLst, wCall, wCB, wIsT, wiR1, wiR2, wiSq, wiEn, wiZip, gN, gT1, gT2, gT3, gT4, gT5, gT6, gT7, wYes, gAdd, DV.gSub, gMul, gMod, gDiv, gPow, gLt, gLe, gGt, gGe, gCmp, gEq, gNe, gIs, gIsN, isNon, gIn, gNotIn, gIx, gSlc, wSlc, wNoP, wPart, gLen, gAbs, gInt, gMin2, gMax2, gAll, gAny, gSum, gTuple, wNeg, wRev, itemsOf, D.isTy, D.isHand, Sl.toD, big_0, big_1, big_2, big_3, big_4, big_5, big_6, big_7, big_8, big_9, big_10, big_11, big_12, draw_iff, own_ex, val_ex, wipeE, restE, Sl.keep, Option.getD_some, get_z, get_s, set_z, set_s, List.length_cons, List.length_nil, atI_0, atI_1, atI_2, atI_3, atI_4, ixN_5_0, ixN_5_1, ixN_5_2, ixN_5_3, ixN_5_4, D.bl.injEq, D.int.injEq, D.lst.injEq, D.tup.injEq, D.str.injEq, Sl.own.injEq, Sl.val.injEq, Option.some.injEq, exists_eq_left', exists_eq_left, exists_eq', exists_eq, or_true, true_or, or_false, false_or, CMul, CPow, natAbs_10, natAbs_2, Int.cast_ofNat_Int, Nat.reducePow, exists_and_left, exists_const, and_assoc, true_and, and_true, and_self, false_and, and_false, if_true, if_false, ite_true, ite_false, reduceCtorEq, decide_true, decide_false, decide_eq_true_eq, decide_eq_false_iff_not, Bool.not_true, Bool.not_false, Bool.false_eq_true, List.replicate_zero, List.replicate_succ, List.map_cons, List.map_nil, List.nil_append, List.cons_append, Nat.reduceSub, Nat.reduceAdd, Nat.reduceLeDiff, Nat.reduceLT, Int.reduceLT, Int.reduceLE, Int.reduceAdd, Int.reduceSub, Int.reduceMul, Int.reduceNeg, Int.reduceMod, Int.reduceDiv, Int.reducePow, Int.reduceToNat, okD_int, okD_bl, okD_lst, okD_tup, okD_non, okL_nil, okL_cons, okD_str, okL_int, eqD_int, eqD_bl, eqD_str, eqD_tup, eqD_lst, eqL_cons, eqL_nil, eqL_cn, eqL_nc, eqL_int, Bool.and_eq_true, Bool.or_eq_true, Bool.not_eq_true', Bool.and_false, Bool.false_and, Bool.or_false, Bool.false_or, Bool.or_true, Bool.true_or, Bool.and_true, Bool.true_and, Bool.and_self])
    exact h
  obtain ⟨s1, s2, s3, s4, s5, rfl⟩ := he
  rw [mem_rangeI] at hq
  unfold B__law_two_3
  (try simp only [wSeq, wAsg, wOwn, wF, wLc, wSkip, wBrk, wCnt, wRet, wRetF, wRetN, wDrop, wIfS, wPar, wFor, wWh, wV, wApp, wExt, wSetIx, wAug, wVal, wLook, wC, wOp, wTst, wChain, wAnd, wOr, wNot, wAndV, wOrV, wNotV, wIf, wNil, wCons, wTup, wLst, wCall, wCB, wIsT, wiR1, wiR2, wiSq, wiEn, wiZip, gN, gT1, gT2, gT3, gT4, gT5, gT6, gT7, wYes, gAdd, DV.gSub, gMul, gMod, gDiv, gPow, gLt, gLe, gGt, gGe, gCmp, gEq, gNe, gIs, gIsN, isNon, gIn, gNotIn, gIx, gSlc, wSlc, wNoP, wPart, gLen, gAbs, gInt, gMin2, gMax2, gAll, gAny, gSum, gTuple, wNeg, wRev, itemsOf, D.isTy, D.isHand, Sl.toD, big_0, big_1, big_2, big_3, big_4, big_5, big_6, big_7, big_8, big_9, big_10, big_11, big_12, draw_iff, own_ex, val_ex, wipeE, restE, Sl.keep, Option.getD_some, get_z, get_s, set_z, set_s, List.length_cons, List.length_nil, atI_0, atI_1, atI_2, atI_3, atI_4, ixN_5_0, ixN_5_1, ixN_5_2, ixN_5_3, ixN_5_4, D.bl.injEq, D.int.injEq, D.lst.injEq, D.tup.injEq, D.str.injEq, Sl.own.injEq, Sl.val.injEq, Option.some.injEq, exists_eq_left', exists_eq_left, exists_eq', exists_eq, or_true, true_or, or_false, false_or, CMul, CPow, natAbs_10, natAbs_2, Int.cast_ofNat_Int, Nat.reducePow, exists_and_left, exists_const, and_assoc, true_and, and_true, and_self, false_and, and_false, if_true, if_false, ite_true, ite_false, reduceCtorEq, decide_true, decide_false, decide_eq_true_eq, decide_eq_false_iff_not, Bool.not_true, Bool.not_false, Bool.false_eq_true, List.replicate_zero, List.replicate_succ, List.map_cons, List.map_nil, List.nil_append, List.cons_append, Nat.reduceSub, Nat.reduceAdd, Nat.reduceLeDiff, Nat.reduceLT, Int.reduceLT, Int.reduceLE, Int.reduceAdd, Int.reduceSub, Int.reduceMul, Int.reduceNeg, Int.reduceMod, Int.reduceDiv, Int.reducePow, Int.reduceToNat, okD_int, okD_bl, okD_lst, okD_tup, okD_non, okL_nil, okL_cons, okD_str, okL_int, eqD_int, eqD_bl, eqD_str, eqD_tup, eqD_lst, eqL_cons, eqL_nil, eqL_cn, eqL_nc, eqL_int, Bool.and_eq_true, Bool.or_eq_true, Bool.not_eq_true', Bool.and_false, Bool.false_and, Bool.or_false, Bool.false_or, Bool.or_true, Bool.true_or, Bool.and_true, Bool.true_and, Bool.and_self])
  refine ⟨by omega, by omega, ?_⟩
  rw [rangeD_map]
  refine for_search (fTp b m q) (fun env => ∃ s2 s3 s4 s5, env = [.val (.int b), .val (.int m), .val (.int n), .val (.lst (sz.map D.int)), .val (.int q), s2, s3, s4, s5, .no, .no]) q1 (fun hd e he => q2 hd e ?_) (fun p hp env he P2 q1 q2 => ?_) ⟨_, _, _, _, rfl⟩
  · obtain ⟨s2, s3, s4, s5, rfl⟩ := he; exact ⟨_, _, _, _, _, rfl⟩
  obtain ⟨s2, s3, s4, s5, rfl⟩ := he
  rw [mem_rangeI] at hp
  unfold B__law_two_4
  (try simp only [wSeq, wAsg, wOwn, wF, wLc, wSkip, wBrk, wCnt, wRet, wRetF, wRetN, wDrop, wIfS, wPar, wFor, wWh, wV, wApp, wExt, wSetIx, wAug, wVal, wLook, wC, wOp, wTst, wChain, wAnd, wOr, wNot, wAndV, wOrV, wNotV, wIf, wNil, wCons, wTup, wLst, wCall, wCB, wIsT, wiR1, wiR2, wiSq, wiEn, wiZip, gN, gT1, gT2, gT3, gT4, gT5, gT6, gT7, wYes, gAdd, DV.gSub, gMul, gMod, gDiv, gPow, gLt, gLe, gGt, gGe, gCmp, gEq, gNe, gIs, gIsN, isNon, gIn, gNotIn, gIx, gSlc, wSlc, wNoP, wPart, gLen, gAbs, gInt, gMin2, gMax2, gAll, gAny, gSum, gTuple, wNeg, wRev, itemsOf, D.isTy, D.isHand, Sl.toD, big_0, big_1, big_2, big_3, big_4, big_5, big_6, big_7, big_8, big_9, big_10, big_11, big_12, draw_iff, own_ex, val_ex, wipeE, restE, Sl.keep, Option.getD_some, get_z, get_s, set_z, set_s, List.length_cons, List.length_nil, atI_0, atI_1, atI_2, atI_3, atI_4, ixN_5_0, ixN_5_1, ixN_5_2, ixN_5_3, ixN_5_4, D.bl.injEq, D.int.injEq, D.lst.injEq, D.tup.injEq, D.str.injEq, Sl.own.injEq, Sl.val.injEq, Option.some.injEq, exists_eq_left', exists_eq_left, exists_eq', exists_eq, or_true, true_or, or_false, false_or, CMul, CPow, natAbs_10, natAbs_2, Int.cast_ofNat_Int, Nat.reducePow, exists_and_left, exists_const, and_assoc, true_and, and_true, and_self, false_and, and_false, if_true, if_false, ite_true, ite_false, reduceCtorEq, decide_true, decide_false, decide_eq_true_eq, decide_eq_false_iff_not, Bool.not_true, Bool.not_false, Bool.false_eq_true, List.replicate_zero, List.replicate_succ, List.map_cons, List.map_nil, List.nil_append, List.cons_append, Nat.reduceSub, Nat.reduceAdd, Nat.reduceLeDiff, Nat.reduceLT, Int.reduceLT, Int.reduceLE, Int.reduceAdd, Int.reduceSub, Int.reduceMul, Int.reduceNeg, Int.reduceMod, Int.reduceDiv, Int.reducePow, Int.reduceToNat, okD_int, okD_bl, okD_lst, okD_tup, okD_non, okL_nil, okL_cons, okD_str, okL_int, eqD_int, eqD_bl, eqD_str, eqD_tup, eqD_lst, eqL_cons, eqL_nil, eqL_cn, eqL_nc, eqL_int, Bool.and_eq_true, Bool.or_eq_true, Bool.not_eq_true', Bool.and_false, Bool.false_and, Bool.or_false, Bool.false_or, Bool.or_true, Bool.true_or, Bool.and_true, Bool.true_and, Bool.and_self])
  refine ⟨by omega, by omega, ?_⟩
  rw [rangeD_map]
  refine for_search (fTa b m q p) (fun env => ∃ s3 s4 s5, env = [.val (.int b), .val (.int m), .val (.int n), .val (.lst (sz.map D.int)), .val (.int q), .val (.int p), s3, s4, s5, .no, .no]) q1 (fun hd e he => q2 hd e ?_) (fun a ha env he P2 q1 q2 => ?_) ⟨_, _, _, rfl⟩
  · obtain ⟨s3, s4, s5, rfl⟩ := he; exact ⟨_, _, _, _, rfl⟩
  obtain ⟨s3, s4, s5, rfl⟩ := he
  rw [mem_rangeI] at ha
  unfold B__law_two_5
  (try simp only [wSeq, wAsg, wOwn, wF, wLc, wSkip, wBrk, wCnt, wRet, wRetF, wRetN, wDrop, wIfS, wPar, wFor, wWh, wV, wApp, wExt, wSetIx, wAug, wVal, wLook, wC, wOp, wTst, wChain, wAnd, wOr, wNot, wAndV, wOrV, wNotV, wIf, wNil, wCons, wTup, wLst, wCall, wCB, wIsT, wiR1, wiR2, wiSq, wiEn, wiZip, gN, gT1, gT2, gT3, gT4, gT5, gT6, gT7, wYes, gAdd, DV.gSub, gMul, gMod, gDiv, gPow, gLt, gLe, gGt, gGe, gCmp, gEq, gNe, gIs, gIsN, isNon, gIn, gNotIn, gIx, gSlc, wSlc, wNoP, wPart, gLen, gAbs, gInt, gMin2, gMax2, gAll, gAny, gSum, gTuple, wNeg, wRev, itemsOf, D.isTy, D.isHand, Sl.toD, big_0, big_1, big_2, big_3, big_4, big_5, big_6, big_7, big_8, big_9, big_10, big_11, big_12, draw_iff, own_ex, val_ex, wipeE, restE, Sl.keep, Option.getD_some, get_z, get_s, set_z, set_s, List.length_cons, List.length_nil, atI_0, atI_1, atI_2, atI_3, atI_4, ixN_5_0, ixN_5_1, ixN_5_2, ixN_5_3, ixN_5_4, D.bl.injEq, D.int.injEq, D.lst.injEq, D.tup.injEq, D.str.injEq, Sl.own.injEq, Sl.val.injEq, Option.some.injEq, exists_eq_left', exists_eq_left, exists_eq', exists_eq, or_true, true_or, or_false, false_or, CMul, CPow, natAbs_10, natAbs_2, Int.cast_ofNat_Int, Nat.reducePow, exists_and_left, exists_const, and_assoc, true_and, and_true, and_self, false_and, and_false, if_true, if_false, ite_true, ite_false, reduceCtorEq, decide_true, decide_false, decide_eq_true_eq, decide_eq_false_iff_not, Bool.not_true, Bool.not_false, Bool.false_eq_true, List.replicate_zero, List.replicate_succ, List.map_cons, List.map_nil, List.nil_append, List.cons_append, Nat.reduceSub, Nat.reduceAdd, Nat.reduceLeDiff, Nat.reduceLT, Int.reduceLT, Int.reduceLE, Int.reduceAdd, Int.reduceSub, Int.reduceMul, Int.reduceNeg, Int.reduceMod, Int.reduceDiv, Int.reducePow, Int.reduceToNat, okD_int, okD_bl, okD_lst, okD_tup, okD_non, okL_nil, okL_cons, okD_str, okL_int, eqD_int, eqD_bl, eqD_str, eqD_tup, eqD_lst, eqL_cons, eqL_nil, eqL_cn, eqL_nc, eqL_int, Bool.and_eq_true, Bool.or_eq_true, Bool.not_eq_true', Bool.and_false, Bool.false_and, Bool.or_false, Bool.false_or, Bool.or_true, Bool.true_or, Bool.and_true, Bool.true_and, Bool.and_self])
  refine sp_law_power (by omega) (by omega) ?_
  (try simp only [wSeq, wAsg, wOwn, wF, wLc, wSkip, wBrk, wCnt, wRet, wRetF, wRetN, wDrop, wIfS, wPar, wFor, wWh, wV, wApp, wExt, wSetIx, wAug, wVal, wLook, wC, wOp, wTst, wChain, wAnd, wOr, wNot, wAndV, wOrV, wNotV, wIf, wNil, wCons, wTup, wLst, wCall, wCB, wIsT, wiR1, wiR2, wiSq, wiEn, wiZip, gN, gT1, gT2, gT3, gT4, gT5, gT6, gT7, wYes, gAdd, DV.gSub, gMul, gMod, gDiv, gPow, gLt, gLe, gGt, gGe, gCmp, gEq, gNe, gIs, gIsN, isNon, gIn, gNotIn, gIx, gSlc, wSlc, wNoP, wPart, gLen, gAbs, gInt, gMin2, gMax2, gAll, gAny, gSum, gTuple, wNeg, wRev, itemsOf, D.isTy, D.isHand, Sl.toD, big_0, big_1, big_2, big_3, big_4, big_5, big_6, big_7, big_8, big_9, big_10, big_11, big_12, draw_iff, own_ex, val_ex, wipeE, restE, Sl.keep, Option.getD_some, get_z, get_s, set_z, set_s, List.length_cons, List.length_nil, atI_0, atI_1, atI_2, atI_3, atI_4, ixN_5_0, ixN_5_1, ixN_5_2, ixN_5_3, ixN_5_4, D.bl.injEq, D.int.injEq, D.lst.injEq, D.tup.injEq, D.str.injEq, Sl.own.injEq, Sl.val.injEq, Option.some.injEq, exists_eq_left', exists_eq_left, exists_eq', exists_eq, or_true, true_or, or_false, false_or, CMul, CPow, natAbs_10, natAbs_2, Int.cast_ofNat_Int, Nat.reducePow, exists_and_left, exists_const, and_assoc, true_and, and_true, and_self, false_and, and_false, if_true, if_false, ite_true, ite_false, reduceCtorEq, decide_true, decide_false, decide_eq_true_eq, decide_eq_false_iff_not, Bool.not_true, Bool.not_false, Bool.false_eq_true, List.replicate_zero, List.replicate_succ, List.map_cons, List.map_nil, List.nil_append, List.cons_append, Nat.reduceSub, Nat.reduceAdd, Nat.reduceLeDiff, Nat.reduceLT, Int.reduceLT, Int.reduceLE, Int.reduceAdd, Int.reduceSub, Int.reduceMul, Int.reduceNeg, Int.reduceMod, Int.reduceDiv, Int.reducePow, Int.reduceToNat, okD_int, okD_bl, okD_lst, okD_tup, okD_non, okL_nil, okL_cons, okD_str, okL_int, eqD_int, eqD_bl, eqD_str, eqD_tup, eqD_lst, eqL_cons, eqL_nil, eqL_cn, eqL_nc, eqL_int, Bool.and_eq_true, Bool.or_eq_true, Bool.not_eq_true', Bool.and_false, Bool.false_and, Bool.or_false, Bool.false_or, Bool.or_true, Bool.true_or, Bool.and_true, Bool.true_and, Bool.and_self])
  refine ⟨.inl ⟨by omega, by omega⟩, ?_⟩
  unfold B__law_two_6
  (try simp only [wSeq, wAsg, wOwn, wF, wLc, wSkip, wBrk, wCnt, wRet, wRetF, wRetN, wDrop, wIfS, wPar, wFor, wWh, wV, wApp, wExt, wSetIx, wAug, wVal, wLook, wC, wOp, wTst, wChain, wAnd, wOr, wNot, wAndV, wOrV, wNotV, wIf, wNil, wCons, wTup, wLst, wCall, wCB, wIsT, wiR1, wiR2, wiSq, wiEn, wiZip, gN, gT1, gT2, gT3, gT4, gT5, gT6, gT7, wYes, gAdd, DV.gSub, gMul, gMod, gDiv, gPow, gLt, gLe, gGt, gGe, gCmp, gEq, gNe, gIs, gIsN, isNon, gIn, gNotIn, gIx, gSlc, wSlc, wNoP, wPart, gLen, gAbs, gInt, gMin2, gMax2, gAll, gAny, gSum, gTuple, wNeg, wRev, itemsOf, D.isTy, D.isHand, Sl.toD, big_0, big_1, big_2, big_3, big_4, big_5, big_6, big_7, big_8, big_9, big_10, big_11, big_12, draw_iff, own_ex, val_ex, wipeE, restE, Sl.keep, Option.getD_some, get_z, get_s, set_z, set_s, List.length_cons, List.length_nil, atI_0, atI_1, atI_2, atI_3, atI_4, ixN_5_0, ixN_5_1, ixN_5_2, ixN_5_3, ixN_5_4, D.bl.injEq, D.int.injEq, D.lst.injEq, D.tup.injEq, D.str.injEq, Sl.own.injEq, Sl.val.injEq, Option.some.injEq, exists_eq_left', exists_eq_left, exists_eq', exists_eq, or_true, true_or, or_false, false_or, CMul, CPow, natAbs_10, natAbs_2, Int.cast_ofNat_Int, Nat.reducePow, exists_and_left, exists_const, and_assoc, true_and, and_true, and_self, false_and, and_false, if_true, if_false, ite_true, ite_false, reduceCtorEq, decide_true, decide_false, decide_eq_true_eq, decide_eq_false_iff_not, Bool.not_true, Bool.not_false, Bool.false_eq_true, List.replicate_zero, List.replicate_succ, List.map_cons, List.map_nil, List.nil_append, List.cons_append, Nat.reduceSub, Nat.reduceAdd, Nat.reduceLeDiff, Nat.reduceLT, Int.reduceLT, Int.reduceLE, Int.reduceAdd, Int.reduceSub, Int.reduceMul, Int.reduceNeg, Int.reduceMod, Int.reduceDiv, Int.reducePow, Int.reduceToNat, okD_int, okD_bl, okD_lst, okD_tup, okD_non, okL_nil, okL_cons, okD_str, okL_int, eqD_int, eqD_bl, eqD_str, eqD_tup, eqD_lst, eqL_cons, eqL_nil, eqL_cn, eqL_nc, eqL_int, Bool.and_eq_true, Bool.or_eq_true, Bool.not_eq_true', Bool.and_false, Bool.false_and, Bool.or_false, Bool.false_or, Bool.or_true, Bool.true_or, Bool.and_true, Bool.true_and, Bool.and_self])
  have sl : sz.length ≤ 100 := by
    refine Nat.le_trans (List.length_filter_le _ _) ?_
    rw [rangeI_len]
    omega
  refine ⟨by rw [List.length_map]; unfold big; omega, ?_⟩
  let cc : Int → Bool := fun d => cTwo b m q p a d
  refine lc_flat (fun x => match x with | .int d => if cc d = true then [.int d] else [] | _ => []) (env := [.val (.int b), .val (.int m), .val (.int n), .val (.lst (sz.map D.int)), .val (.int q), .val (.int p), .val (.int a), .val (.int (a * b ^ p.toNat)), s5, .no, .no]) (fun x hx K' hk => ?_) ?_
  · obtain ⟨d, hd, rfl⟩ := List.mem_map.mp hx
    have hd2 := mem_rangeI.mp ((List.mem_filter.mp hd).1)
    (try simp only [wSeq, wAsg, wOwn, wF, wLc, wSkip, wBrk, wCnt, wRet, wRetF, wRetN, wDrop, wIfS, wPar, wFor, wWh, wV, wApp, wExt, wSetIx, wAug, wVal, wLook, wC, wOp, wTst, wChain, wAnd, wOr, wNot, wAndV, wOrV, wNotV, wIf, wNil, wCons, wTup, wLst, wCall, wCB, wIsT, wiR1, wiR2, wiSq, wiEn, wiZip, gN, gT1, gT2, gT3, gT4, gT5, gT6, gT7, wYes, gAdd, DV.gSub, gMul, gMod, gDiv, gPow, gLt, gLe, gGt, gGe, gCmp, gEq, gNe, gIs, gIsN, isNon, gIn, gNotIn, gIx, gSlc, wSlc, wNoP, wPart, gLen, gAbs, gInt, gMin2, gMax2, gAll, gAny, gSum, gTuple, wNeg, wRev, itemsOf, D.isTy, D.isHand, Sl.toD, big_0, big_1, big_2, big_3, big_4, big_5, big_6, big_7, big_8, big_9, big_10, big_11, big_12, draw_iff, own_ex, val_ex, wipeE, restE, Sl.keep, Option.getD_some, get_z, get_s, set_z, set_s, List.length_cons, List.length_nil, atI_0, atI_1, atI_2, atI_3, atI_4, ixN_5_0, ixN_5_1, ixN_5_2, ixN_5_3, ixN_5_4, D.bl.injEq, D.int.injEq, D.lst.injEq, D.tup.injEq, D.str.injEq, Sl.own.injEq, Sl.val.injEq, Option.some.injEq, exists_eq_left', exists_eq_left, exists_eq', exists_eq, or_true, true_or, or_false, false_or, CMul, CPow, natAbs_10, natAbs_2, Int.cast_ofNat_Int, Nat.reducePow, exists_and_left, exists_const, and_assoc, true_and, and_true, and_self, false_and, and_false, if_true, if_false, ite_true, ite_false, reduceCtorEq, decide_true, decide_false, decide_eq_true_eq, decide_eq_false_iff_not, Bool.not_true, Bool.not_false, Bool.false_eq_true, List.replicate_zero, List.replicate_succ, List.map_cons, List.map_nil, List.nil_append, List.cons_append, Nat.reduceSub, Nat.reduceAdd, Nat.reduceLeDiff, Nat.reduceLT, Int.reduceLT, Int.reduceLE, Int.reduceAdd, Int.reduceSub, Int.reduceMul, Int.reduceNeg, Int.reduceMod, Int.reduceDiv, Int.reducePow, Int.reduceToNat, okD_int, okD_bl, okD_lst, okD_tup, okD_non, okL_nil, okL_cons, okD_str, okL_int, eqD_int, eqD_bl, eqD_str, eqD_tup, eqD_lst, eqL_cons, eqL_nil, eqL_cn, eqL_nc, eqL_int, Bool.and_eq_true, Bool.or_eq_true, Bool.not_eq_true', Bool.and_false, Bool.false_and, Bool.or_false, Bool.false_or, Bool.or_true, Bool.true_or, Bool.and_true, Bool.true_and, Bool.and_self])
    refine sp_law_power (by omega) (by omega) ?_
    have e : ((a * b ^ p.toNat + d * b ^ q.toNat) % m = 0) = (cc d = true) := by
      show _ = (cTwo b m q p a d = true)
      unfold cTwo
      simp
    simp only [wSeq, wAsg, wOwn, wF, wLc, wSkip, wBrk, wCnt, wRet, wRetF, wRetN, wDrop, wIfS, wPar, wFor, wWh, wV, wApp, wExt, wSetIx, wAug, wVal, wLook, wC, wOp, wTst, wChain, wAnd, wOr, wNot, wAndV, wOrV, wNotV, wIf, wNil, wCons, wTup, wLst, wCall, wCB, wIsT, wiR1, wiR2, wiSq, wiEn, wiZip, gN, gT1, gT2, gT3, gT4, gT5, gT6, gT7, wYes, gAdd, DV.gSub, gMul, gMod, gDiv, gPow, gLt, gLe, gGt, gGe, gCmp, gEq, gNe, gIs, gIsN, isNon, gIn, gNotIn, gIx, gSlc, wSlc, wNoP, wPart, gLen, gAbs, gInt, gMin2, gMax2, gAll, gAny, gSum, gTuple, wNeg, wRev, itemsOf, D.isTy, D.isHand, Sl.toD, big_0, big_1, big_2, big_3, big_4, big_5, big_6, big_7, big_8, big_9, big_10, big_11, big_12, draw_iff, own_ex, val_ex, wipeE, restE, Sl.keep, Option.getD_some, get_z, get_s, set_z, set_s, List.length_cons, List.length_nil, atI_0, atI_1, atI_2, atI_3, atI_4, ixN_5_0, ixN_5_1, ixN_5_2, ixN_5_3, ixN_5_4, D.bl.injEq, D.int.injEq, D.lst.injEq, D.tup.injEq, D.str.injEq, Sl.own.injEq, Sl.val.injEq, Option.some.injEq, exists_eq_left', exists_eq_left, exists_eq', exists_eq, or_true, true_or, or_false, false_or, CMul, CPow, natAbs_10, natAbs_2, Int.cast_ofNat_Int, Nat.reducePow, exists_and_left, exists_const, and_assoc, true_and, and_true, and_self, false_and, and_false, if_true, if_false, ite_true, ite_false, reduceCtorEq, decide_true, decide_false, decide_eq_true_eq, decide_eq_false_iff_not, Bool.not_true, Bool.not_false, Bool.false_eq_true, List.replicate_zero, List.replicate_succ, List.map_cons, List.map_nil, List.nil_append, List.cons_append, Nat.reduceSub, Nat.reduceAdd, Nat.reduceLeDiff, Nat.reduceLT, Int.reduceLT, Int.reduceLE, Int.reduceAdd, Int.reduceSub, Int.reduceMul, Int.reduceNeg, Int.reduceMod, Int.reduceDiv, Int.reducePow, Int.reduceToNat, okD_int, okD_bl, okD_lst, okD_tup, okD_non, okL_nil, okL_cons, okD_str, okL_int, eqD_int, eqD_bl, eqD_str, eqD_tup, eqD_lst, eqL_cons, eqL_nil, eqL_cn, eqL_nc, eqL_int, Bool.and_eq_true, Bool.or_eq_true, Bool.not_eq_true', Bool.and_false, Bool.false_and, Bool.or_false, Bool.false_or, Bool.or_true, Bool.true_or, Bool.and_true, Bool.true_and, Bool.and_self, e]
    refine ⟨.inl ⟨by omega, by omega⟩, by omega, ?_⟩
    by_cases hc : cc d = true
    · simp only [wSeq, wAsg, wOwn, wF, wLc, wSkip, wBrk, wCnt, wRet, wRetF, wRetN, wDrop, wIfS, wPar, wFor, wWh, wV, wApp, wExt, wSetIx, wAug, wVal, wLook, wC, wOp, wTst, wChain, wAnd, wOr, wNot, wAndV, wOrV, wNotV, wIf, wNil, wCons, wTup, wLst, wCall, wCB, wIsT, wiR1, wiR2, wiSq, wiEn, wiZip, gN, gT1, gT2, gT3, gT4, gT5, gT6, gT7, wYes, gAdd, DV.gSub, gMul, gMod, gDiv, gPow, gLt, gLe, gGt, gGe, gCmp, gEq, gNe, gIs, gIsN, isNon, gIn, gNotIn, gIx, gSlc, wSlc, wNoP, wPart, gLen, gAbs, gInt, gMin2, gMax2, gAll, gAny, gSum, gTuple, wNeg, wRev, itemsOf, D.isTy, D.isHand, Sl.toD, big_0, big_1, big_2, big_3, big_4, big_5, big_6, big_7, big_8, big_9, big_10, big_11, big_12, draw_iff, own_ex, val_ex, wipeE, restE, Sl.keep, Option.getD_some, get_z, get_s, set_z, set_s, List.length_cons, List.length_nil, atI_0, atI_1, atI_2, atI_3, atI_4, ixN_5_0, ixN_5_1, ixN_5_2, ixN_5_3, ixN_5_4, D.bl.injEq, D.int.injEq, D.lst.injEq, D.tup.injEq, D.str.injEq, Sl.own.injEq, Sl.val.injEq, Option.some.injEq, exists_eq_left', exists_eq_left, exists_eq', exists_eq, or_true, true_or, or_false, false_or, CMul, CPow, natAbs_10, natAbs_2, Int.cast_ofNat_Int, Nat.reducePow, exists_and_left, exists_const, and_assoc, true_and, and_true, and_self, false_and, and_false, if_true, if_false, ite_true, ite_false, reduceCtorEq, decide_true, decide_false, decide_eq_true_eq, decide_eq_false_iff_not, Bool.not_true, Bool.not_false, Bool.false_eq_true, List.replicate_zero, List.replicate_succ, List.map_cons, List.map_nil, List.nil_append, List.cons_append, Nat.reduceSub, Nat.reduceAdd, Nat.reduceLeDiff, Nat.reduceLT, Int.reduceLT, Int.reduceLE, Int.reduceAdd, Int.reduceSub, Int.reduceMul, Int.reduceNeg, Int.reduceMod, Int.reduceDiv, Int.reducePow, Int.reduceToNat, okD_int, okD_bl, okD_lst, okD_tup, okD_non, okL_nil, okL_cons, okD_str, okL_int, eqD_int, eqD_bl, eqD_str, eqD_tup, eqD_lst, eqL_cons, eqL_nil, eqL_cn, eqL_nc, eqL_int, Bool.and_eq_true, Bool.or_eq_true, Bool.not_eq_true', Bool.and_false, Bool.false_and, Bool.or_false, Bool.false_or, Bool.or_true, Bool.true_or, Bool.and_true, Bool.true_and, Bool.and_self, hc]
      simp only [wSeq, wAsg, wOwn, wF, wLc, wSkip, wBrk, wCnt, wRet, wRetF, wRetN, wDrop, wIfS, wPar, wFor, wWh, wV, wApp, wExt, wSetIx, wAug, wVal, wLook, wC, wOp, wTst, wChain, wAnd, wOr, wNot, wAndV, wOrV, wNotV, wIf, wNil, wCons, wTup, wLst, wCall, wCB, wIsT, wiR1, wiR2, wiSq, wiEn, wiZip, gN, gT1, gT2, gT3, gT4, gT5, gT6, gT7, wYes, gAdd, DV.gSub, gMul, gMod, gDiv, gPow, gLt, gLe, gGt, gGe, gCmp, gEq, gNe, gIs, gIsN, isNon, gIn, gNotIn, gIx, gSlc, wSlc, wNoP, wPart, gLen, gAbs, gInt, gMin2, gMax2, gAll, gAny, gSum, gTuple, wNeg, wRev, itemsOf, D.isTy, D.isHand, Sl.toD, big_0, big_1, big_2, big_3, big_4, big_5, big_6, big_7, big_8, big_9, big_10, big_11, big_12, draw_iff, own_ex, val_ex, wipeE, restE, Sl.keep, Option.getD_some, get_z, get_s, set_z, set_s, List.length_cons, List.length_nil, atI_0, atI_1, atI_2, atI_3, atI_4, ixN_5_0, ixN_5_1, ixN_5_2, ixN_5_3, ixN_5_4, D.bl.injEq, D.int.injEq, D.lst.injEq, D.tup.injEq, D.str.injEq, Sl.own.injEq, Sl.val.injEq, Option.some.injEq, exists_eq_left', exists_eq_left, exists_eq', exists_eq, or_true, true_or, or_false, false_or, CMul, CPow, natAbs_10, natAbs_2, Int.cast_ofNat_Int, Nat.reducePow, exists_and_left, exists_const, and_assoc, true_and, and_true, and_self, false_and, and_false, if_true, if_false, ite_true, ite_false, reduceCtorEq, decide_true, decide_false, decide_eq_true_eq, decide_eq_false_iff_not, Bool.not_true, Bool.not_false, Bool.false_eq_true, List.replicate_zero, List.replicate_succ, List.map_cons, List.map_nil, List.nil_append, List.cons_append, Nat.reduceSub, Nat.reduceAdd, Nat.reduceLeDiff, Nat.reduceLT, Int.reduceLT, Int.reduceLE, Int.reduceAdd, Int.reduceSub, Int.reduceMul, Int.reduceNeg, Int.reduceMod, Int.reduceDiv, Int.reducePow, Int.reduceToNat, okD_int, okD_bl, okD_lst, okD_tup, okD_non, okL_nil, okL_cons, okD_str, okL_int, eqD_int, eqD_bl, eqD_str, eqD_tup, eqD_lst, eqL_cons, eqL_nil, eqL_cn, eqL_nc, eqL_int, Bool.and_eq_true, Bool.or_eq_true, Bool.not_eq_true', Bool.and_false, Bool.false_and, Bool.or_false, Bool.false_or, Bool.or_true, Bool.true_or, Bool.and_true, Bool.true_and, Bool.and_self, hc] at hk
      exact hk
    · simp only [wSeq, wAsg, wOwn, wF, wLc, wSkip, wBrk, wCnt, wRet, wRetF, wRetN, wDrop, wIfS, wPar, wFor, wWh, wV, wApp, wExt, wSetIx, wAug, wVal, wLook, wC, wOp, wTst, wChain, wAnd, wOr, wNot, wAndV, wOrV, wNotV, wIf, wNil, wCons, wTup, wLst, wCall, wCB, wIsT, wiR1, wiR2, wiSq, wiEn, wiZip, gN, gT1, gT2, gT3, gT4, gT5, gT6, gT7, wYes, gAdd, DV.gSub, gMul, gMod, gDiv, gPow, gLt, gLe, gGt, gGe, gCmp, gEq, gNe, gIs, gIsN, isNon, gIn, gNotIn, gIx, gSlc, wSlc, wNoP, wPart, gLen, gAbs, gInt, gMin2, gMax2, gAll, gAny, gSum, gTuple, wNeg, wRev, itemsOf, D.isTy, D.isHand, Sl.toD, big_0, big_1, big_2, big_3, big_4, big_5, big_6, big_7, big_8, big_9, big_10, big_11, big_12, draw_iff, own_ex, val_ex, wipeE, restE, Sl.keep, Option.getD_some, get_z, get_s, set_z, set_s, List.length_cons, List.length_nil, atI_0, atI_1, atI_2, atI_3, atI_4, ixN_5_0, ixN_5_1, ixN_5_2, ixN_5_3, ixN_5_4, D.bl.injEq, D.int.injEq, D.lst.injEq, D.tup.injEq, D.str.injEq, Sl.own.injEq, Sl.val.injEq, Option.some.injEq, exists_eq_left', exists_eq_left, exists_eq', exists_eq, or_true, true_or, or_false, false_or, CMul, CPow, natAbs_10, natAbs_2, Int.cast_ofNat_Int, Nat.reducePow, exists_and_left, exists_const, and_assoc, true_and, and_true, and_self, false_and, and_false, if_true, if_false, ite_true, ite_false, reduceCtorEq, decide_true, decide_false, decide_eq_true_eq, decide_eq_false_iff_not, Bool.not_true, Bool.not_false, Bool.false_eq_true, List.replicate_zero, List.replicate_succ, List.map_cons, List.map_nil, List.nil_append, List.cons_append, Nat.reduceSub, Nat.reduceAdd, Nat.reduceLeDiff, Nat.reduceLT, Int.reduceLT, Int.reduceLE, Int.reduceAdd, Int.reduceSub, Int.reduceMul, Int.reduceNeg, Int.reduceMod, Int.reduceDiv, Int.reducePow, Int.reduceToNat, okD_int, okD_bl, okD_lst, okD_tup, okD_non, okL_nil, okL_cons, okD_str, okL_int, eqD_int, eqD_bl, eqD_str, eqD_tup, eqD_lst, eqL_cons, eqL_nil, eqL_cn, eqL_nc, eqL_int, Bool.and_eq_true, Bool.or_eq_true, Bool.not_eq_true', Bool.and_false, Bool.false_and, Bool.or_false, Bool.false_or, Bool.or_true, Bool.true_or, Bool.and_true, Bool.true_and, Bool.and_self, hc]
      simp only [wSeq, wAsg, wOwn, wF, wLc, wSkip, wBrk, wCnt, wRet, wRetF, wRetN, wDrop, wIfS, wPar, wFor, wWh, wV, wApp, wExt, wSetIx, wAug, wVal, wLook, wC, wOp, wTst, wChain, wAnd, wOr, wNot, wAndV, wOrV, wNotV, wIf, wNil, wCons, wTup, wLst, wCall, wCB, wIsT, wiR1, wiR2, wiSq, wiEn, wiZip, gN, gT1, gT2, gT3, gT4, gT5, gT6, gT7, wYes, gAdd, DV.gSub, gMul, gMod, gDiv, gPow, gLt, gLe, gGt, gGe, gCmp, gEq, gNe, gIs, gIsN, isNon, gIn, gNotIn, gIx, gSlc, wSlc, wNoP, wPart, gLen, gAbs, gInt, gMin2, gMax2, gAll, gAny, gSum, gTuple, wNeg, wRev, itemsOf, D.isTy, D.isHand, Sl.toD, big_0, big_1, big_2, big_3, big_4, big_5, big_6, big_7, big_8, big_9, big_10, big_11, big_12, draw_iff, own_ex, val_ex, wipeE, restE, Sl.keep, Option.getD_some, get_z, get_s, set_z, set_s, List.length_cons, List.length_nil, atI_0, atI_1, atI_2, atI_3, atI_4, ixN_5_0, ixN_5_1, ixN_5_2, ixN_5_3, ixN_5_4, D.bl.injEq, D.int.injEq, D.lst.injEq, D.tup.injEq, D.str.injEq, Sl.own.injEq, Sl.val.injEq, Option.some.injEq, exists_eq_left', exists_eq_left, exists_eq', exists_eq, or_true, true_or, or_false, false_or, CMul, CPow, natAbs_10, natAbs_2, Int.cast_ofNat_Int, Nat.reducePow, exists_and_left, exists_const, and_assoc, true_and, and_true, and_self, false_and, and_false, if_true, if_false, ite_true, ite_false, reduceCtorEq, decide_true, decide_false, decide_eq_true_eq, decide_eq_false_iff_not, Bool.not_true, Bool.not_false, Bool.false_eq_true, List.replicate_zero, List.replicate_succ, List.map_cons, List.map_nil, List.nil_append, List.cons_append, Nat.reduceSub, Nat.reduceAdd, Nat.reduceLeDiff, Nat.reduceLT, Int.reduceLT, Int.reduceLE, Int.reduceAdd, Int.reduceSub, Int.reduceMul, Int.reduceNeg, Int.reduceMod, Int.reduceDiv, Int.reducePow, Int.reduceToNat, okD_int, okD_bl, okD_lst, okD_tup, okD_non, okL_nil, okL_cons, okD_str, okL_int, eqD_int, eqD_bl, eqD_str, eqD_tup, eqD_lst, eqL_cons, eqL_nil, eqL_cn, eqL_nc, eqL_int, Bool.and_eq_true, Bool.or_eq_true, Bool.not_eq_true', Bool.and_false, Bool.false_and, Bool.or_false, Bool.false_or, Bool.or_true, Bool.true_or, Bool.and_true, Bool.true_and, Bool.and_self, hc] at hk
      exact hk
  rw [flat_filter (P := cc), List.nil_append]
  intro _
  (try simp only [wSeq, wAsg, wOwn, wF, wLc, wSkip, wBrk, wCnt, wRet, wRetF, wRetN, wDrop, wIfS, wPar, wFor, wWh, wV, wApp, wExt, wSetIx, wAug, wVal, wLook, wC, wOp, wTst, wChain, wAnd, wOr, wNot, wAndV, wOrV, wNotV, wIf, wNil, wCons, wTup, wLst, wCall, wCB, wIsT, wiR1, wiR2, wiSq, wiEn, wiZip, gN, gT1, gT2, gT3, gT4, gT5, gT6, gT7, wYes, gAdd, DV.gSub, gMul, gMod, gDiv, gPow, gLt, gLe, gGt, gGe, gCmp, gEq, gNe, gIs, gIsN, isNon, gIn, gNotIn, gIx, gSlc, wSlc, wNoP, wPart, gLen, gAbs, gInt, gMin2, gMax2, gAll, gAny, gSum, gTuple, wNeg, wRev, itemsOf, D.isTy, D.isHand, Sl.toD, big_0, big_1, big_2, big_3, big_4, big_5, big_6, big_7, big_8, big_9, big_10, big_11, big_12, draw_iff, own_ex, val_ex, wipeE, restE, Sl.keep, Option.getD_some, get_z, get_s, set_z, set_s, List.length_cons, List.length_nil, atI_0, atI_1, atI_2, atI_3, atI_4, ixN_5_0, ixN_5_1, ixN_5_2, ixN_5_3, ixN_5_4, D.bl.injEq, D.int.injEq, D.lst.injEq, D.tup.injEq, D.str.injEq, Sl.own.injEq, Sl.val.injEq, Option.some.injEq, exists_eq_left', exists_eq_left, exists_eq', exists_eq, or_true, true_or, or_false, false_or, CMul, CPow, natAbs_10, natAbs_2, Int.cast_ofNat_Int, Nat.reducePow, exists_and_left, exists_const, and_assoc, true_and, and_true, and_self, false_and, and_false, if_true, if_false, ite_true, ite_false, reduceCtorEq, decide_true, decide_false, decide_eq_true_eq, decide_eq_false_iff_not, Bool.not_true, Bool.not_false, Bool.false_eq_true, List.replicate_zero, List.replicate_succ, List.map_cons, List.map_nil, List.nil_append, List.cons_append, Nat.reduceSub, Nat.reduceAdd, Nat.reduceLeDiff, Nat.reduceLT, Int.reduceLT, Int.reduceLE, Int.reduceAdd, Int.reduceSub, Int.reduceMul, Int.reduceNeg, Int.reduceMod, Int.reduceDiv, Int.reducePow, Int.reduceToNat, okD_int, okD_bl, okD_lst, okD_tup, okD_non, okL_nil, okL_cons, okD_str, okL_int, eqD_int, eqD_bl, eqD_str, eqD_tup, eqD_lst, eqL_cons, eqL_nil, eqL_cn, eqL_nc, eqL_int, Bool.and_eq_true, Bool.or_eq_true, Bool.not_eq_true', Bool.and_false, Bool.false_and, Bool.or_false, Bool.false_or, Bool.or_true, Bool.true_or, Bool.and_true, Bool.true_and, Bool.and_self])
  unfold B__law_two_7
  have ea : fTa b m q p a = ((sz.filter cc).head?).map fun d => D.tup [.str "places", .int p, .int q, .int a, .int d] := by
    unfold fTa
    rw [List.filter_filter, ← find_filter]
    refine findSome_congr fun d _ => ?_
    unfold fTd
    by_cases h1 : d = 0 <;> simp [h1, cc]
  cases hh : sz.filter cc with
  | nil =>
    rw [hh] at ea
    (try simp only [wSeq, wAsg, wOwn, wF, wLc, wSkip, wBrk, wCnt, wRet, wRetF, wRetN, wDrop, wIfS, wPar, wFor, wWh, wV, wApp, wExt, wSetIx, wAug, wVal, wLook, wC, wOp, wTst, wChain, wAnd, wOr, wNot, wAndV, wOrV, wNotV, wIf, wNil, wCons, wTup, wLst, wCall, wCB, wIsT, wiR1, wiR2, wiSq, wiEn, wiZip, gN, gT1, gT2, gT3, gT4, gT5, gT6, gT7, wYes, gAdd, DV.gSub, gMul, gMod, gDiv, gPow, gLt, gLe, gGt, gGe, gCmp, gEq, gNe, gIs, gIsN, isNon, gIn, gNotIn, gIx, gSlc, wSlc, wNoP, wPart, gLen, gAbs, gInt, gMin2, gMax2, gAll, gAny, gSum, gTuple, wNeg, wRev, itemsOf, D.isTy, D.isHand, Sl.toD, big_0, big_1, big_2, big_3, big_4, big_5, big_6, big_7, big_8, big_9, big_10, big_11, big_12, draw_iff, own_ex, val_ex, wipeE, restE, Sl.keep, Option.getD_some, get_z, get_s, set_z, set_s, List.length_cons, List.length_nil, atI_0, atI_1, atI_2, atI_3, atI_4, ixN_5_0, ixN_5_1, ixN_5_2, ixN_5_3, ixN_5_4, D.bl.injEq, D.int.injEq, D.lst.injEq, D.tup.injEq, D.str.injEq, Sl.own.injEq, Sl.val.injEq, Option.some.injEq, exists_eq_left', exists_eq_left, exists_eq', exists_eq, or_true, true_or, or_false, false_or, CMul, CPow, natAbs_10, natAbs_2, Int.cast_ofNat_Int, Nat.reducePow, exists_and_left, exists_const, and_assoc, true_and, and_true, and_self, false_and, and_false, if_true, if_false, ite_true, ite_false, reduceCtorEq, decide_true, decide_false, decide_eq_true_eq, decide_eq_false_iff_not, Bool.not_true, Bool.not_false, Bool.false_eq_true, List.replicate_zero, List.replicate_succ, List.map_cons, List.map_nil, List.nil_append, List.cons_append, Nat.reduceSub, Nat.reduceAdd, Nat.reduceLeDiff, Nat.reduceLT, Int.reduceLT, Int.reduceLE, Int.reduceAdd, Int.reduceSub, Int.reduceMul, Int.reduceNeg, Int.reduceMod, Int.reduceDiv, Int.reducePow, Int.reduceToNat, okD_int, okD_bl, okD_lst, okD_tup, okD_non, okL_nil, okL_cons, okD_str, okL_int, eqD_int, eqD_bl, eqD_str, eqD_tup, eqD_lst, eqL_cons, eqL_nil, eqL_cn, eqL_nc, eqL_int, Bool.and_eq_true, Bool.or_eq_true, Bool.not_eq_true', Bool.and_false, Bool.false_and, Bool.or_false, Bool.false_or, Bool.or_true, Bool.true_or, Bool.and_true, Bool.true_and, Bool.and_self])
    exact q2 ea _ ⟨_, _, _, rfl⟩
  | cons d r =>
    rw [hh] at ea
    have lp : (0 : Int) < ((List.map D.int r).length + 1 : Nat) := by omega
    simp only [wSeq, wAsg, wOwn, wF, wLc, wSkip, wBrk, wCnt, wRet, wRetF, wRetN, wDrop, wIfS, wPar, wFor, wWh, wV, wApp, wExt, wSetIx, wAug, wVal, wLook, wC, wOp, wTst, wChain, wAnd, wOr, wNot, wAndV, wOrV, wNotV, wIf, wNil, wCons, wTup, wLst, wCall, wCB, wIsT, wiR1, wiR2, wiSq, wiEn, wiZip, gN, gT1, gT2, gT3, gT4, gT5, gT6, gT7, wYes, gAdd, DV.gSub, gMul, gMod, gDiv, gPow, gLt, gLe, gGt, gGe, gCmp, gEq, gNe, gIs, gIsN, isNon, gIn, gNotIn, gIx, gSlc, wSlc, wNoP, wPart, gLen, gAbs, gInt, gMin2, gMax2, gAll, gAny, gSum, gTuple, wNeg, wRev, itemsOf, D.isTy, D.isHand, Sl.toD, big_0, big_1, big_2, big_3, big_4, big_5, big_6, big_7, big_8, big_9, big_10, big_11, big_12, draw_iff, own_ex, val_ex, wipeE, restE, Sl.keep, Option.getD_some, get_z, get_s, set_z, set_s, List.length_cons, List.length_nil, atI_0, atI_1, atI_2, atI_3, atI_4, ixN_5_0, ixN_5_1, ixN_5_2, ixN_5_3, ixN_5_4, D.bl.injEq, D.int.injEq, D.lst.injEq, D.tup.injEq, D.str.injEq, Sl.own.injEq, Sl.val.injEq, Option.some.injEq, exists_eq_left', exists_eq_left, exists_eq', exists_eq, or_true, true_or, or_false, false_or, CMul, CPow, natAbs_10, natAbs_2, Int.cast_ofNat_Int, Nat.reducePow, exists_and_left, exists_const, and_assoc, true_and, and_true, and_self, false_and, and_false, if_true, if_false, ite_true, ite_false, reduceCtorEq, decide_true, decide_false, decide_eq_true_eq, decide_eq_false_iff_not, Bool.not_true, Bool.not_false, Bool.false_eq_true, List.replicate_zero, List.replicate_succ, List.map_cons, List.map_nil, List.nil_append, List.cons_append, Nat.reduceSub, Nat.reduceAdd, Nat.reduceLeDiff, Nat.reduceLT, Int.reduceLT, Int.reduceLE, Int.reduceAdd, Int.reduceSub, Int.reduceMul, Int.reduceNeg, Int.reduceMod, Int.reduceDiv, Int.reducePow, Int.reduceToNat, okD_int, okD_bl, okD_lst, okD_tup, okD_non, okL_nil, okL_cons, okD_str, okL_int, eqD_int, eqD_bl, eqD_str, eqD_tup, eqD_lst, eqL_cons, eqL_nil, eqL_cn, eqL_nc, eqL_int, Bool.and_eq_true, Bool.or_eq_true, Bool.not_eq_true', Bool.and_false, Bool.false_and, Bool.or_false, Bool.false_or, Bool.or_true, Bool.true_or, Bool.and_true, Bool.true_and, Bool.and_self, lp]
    exact q1 _ ea _
end
theorem ok_ps : PyData.strOk "places" = true := by decide +kernel
theorem ok_s : PyData.strOk "seen" = true := by decide +kernel
theorem ok_two {b m n : Int} : isOk 2 (two b m n) := by
  rcases two_cases b m n with e | ⟨p, q, a, d, _, _, _, _, _, _, _, _, e⟩ <;> rw [e]
  · refine ⟨by decide, fun x hx => ?_⟩
    rw [List.mem_singleton.mp hx]
    show okD _ 60 = true
    rw [okD_str]; exact ok_s
  · refine ⟨show 5 ≤ big by decide, fun x hx => ?_⟩
    rcases List.mem_cons.mp hx with rfl | hx
    · show okD _ 60 = true
      rw [okD_str]; exact ok_ps
    · simp only [List.mem_cons, List.not_mem_nil, or_false] at hx
      rcases hx with rfl | rfl | rfl | rfl <;> trivial
end Law

set_option Elab.async false
set_option linter.all false
set_option maxRecDepth 100000
namespace Law
open PySem PySem.Spec PyProof.Rows L2 DV
theorem num_lt {b : Int} (hb : 1 ≤ b) : ∀ {ws : List Int}, (∀ x ∈ ws, 0 ≤ x ∧ x < b) → 0 ≤ num b 0 ws ∧ num b 0 ws < b ^ ws.length
  | [], _ => by simp [num]
  | x :: ws, h => by
    have ⟨i1, i2⟩ := num_lt hb fun y hy => h y (List.mem_cons_of_mem _ hy)
    have hx := h x List.mem_cons_self
    rw [num, num_add, Int.zero_mul, Int.zero_add, List.length_cons, Int.pow_succ]
    have p : 0 < b ^ ws.length := Int.pow_pos (show 0 < b by omega)
    have p1 := Int.mul_nonneg hx.1 (Int.le_of_lt p)
    have p2 : (x + 1) * b ^ ws.length ≤ b * b ^ ws.length := Int.mul_le_mul_of_nonneg_right (by omega) (by omega)
    rw [Int.add_mul, Int.one_mul] at p2
    rw [Int.mul_comm (b ^ ws.length)]
    omega
theorem num_inj {b : Int} (hb : 1 ≤ b) : ∀ {ws vs : List Int}, (∀ x ∈ ws, 0 ≤ x ∧ x < b) → (∀ x ∈ vs, 0 ≤ x ∧ x < b) → ws.length = vs.length → num b 0 ws = num b 0 vs → ws = vs
  | [], [], _, _, _, _ => rfl
  | [], _ :: _, _, _, h, _ => by cases h
  | _ :: _, [], _, _, h, _ => by cases h
  | x :: ws, y :: vs, h1, h2, hl, e => by
    have hl2 : ws.length = vs.length := Nat.succ.inj hl
    have ⟨i1, i2⟩ := num_lt hb fun z hz => h1 z (List.mem_cons_of_mem _ hz)
    have ⟨j1, j2⟩ := num_lt hb fun z hz => h2 z (List.mem_cons_of_mem _ hz)
    rw [num, num, num_add, num_add b (0 * b + y), Int.zero_mul, Int.zero_add, Int.zero_add, hl2] at e
    rw [hl2] at i2
    have p : 0 < b ^ vs.length := Int.pow_pos (show 0 < b by omega)
    have xy : x = y := by
      rcases Int.lt_trichotomy x y with hlt | heq | hgt
      · exfalso
        have := Int.mul_le_mul_of_nonneg_right (show x + 1 ≤ y by omega) (Int.le_of_lt p)
        rw [Int.add_mul, Int.one_mul] at this
        omega
      · exact heq
      · exfalso
        have := Int.mul_le_mul_of_nonneg_right (show y + 1 ≤ x by omega) (Int.le_of_lt p)
        rw [Int.add_mul, Int.one_mul] at this
        omega
    subst xy
    have e2 : num b 0 ws = num b 0 vs := by omega
    rw [num_inj hb (fun z hz => h1 z (List.mem_cons_of_mem _ hz)) (fun z hz => h2 z (List.mem_cons_of_mem _ hz)) hl2 e2]
/-- what the part that has nothing in common tells -/
theorem part_zero {b q L : Nat} (c : CoPart b q L) {d : Int} {r : Nat} (h1 : -(L : Int) < d) (h2 : d < L) (h : d * (b : Int) ^ r % q = 0) : d = 0 := by
  obtain ⟨hL, hc, m, k, e, _⟩ := c
  have h3 : (q : Int) ∣ d * (b : Int) ^ r := Int.dvd_of_emod_eq_zero h
  have h4 : L ∣ (d * (b : Int) ^ r).natAbs := by
    have := Int.natAbs_dvd_natAbs.mpr h3
    rw [Int.natAbs_natCast] at this
    exact Nat.dvd_trans ⟨m, e⟩ this
  rw [Int.natAbs_mul, Int.natAbs_pow, Int.natAbs_natCast] at h4
  have h5 : L ∣ d.natAbs := (Nat.Coprime.pow_right r hc).dvd_of_dvd_mul_right h4
  rcases Nat.eq_zero_or_pos d.natAbs with h6 | h6
  · omega
  · have := Nat.le_of_dvd h6 h5
    omega
section
variable {Q : D → Prop} {E : Er → Prop}
theorem l21 {b q w : Nat} (f : FitOk b q) (hw : 1 ≤ w) {L : Nat} (c : CoPart b q L) {k : Bool} (hk : k = decide ((b : Int) ^ w ≤ L)) {s0 s3 s4 s5 s6 s7 s8 s9 s11 s12 s13 s14 s15 : Sl} {P : Post} (h : ∀ e, P.rt (.bl true) e) :
    B__law_is_right_21 [s0, .val (.int b), .val (.int q), s3, s4, s5, s6, s7, s8, s9, .val (.bl k), s11, s12, s13, s14, s15] P := by
  unfold B__law_is_right_21
  (try simp only [wSeq, wAsg, wOwn, wF, wLc, wSkip, wBrk, wCnt, wRet, wRetF, wRetN, wDrop, wIfS, wPar, wFor, wWh, wV, wApp, wExt, wSetIx, wAug, wVal, wLook, wC, wOp, wTst, wChain, wAnd, wOr, wNot, wAndV, wOrV, wNotV, wIf, wNil, wCons, wTup, wLst, wCall, wCB, wIsT, wiR1, wiR2, wiSq, wiEn, wiZip, gN, gT1, gT2, gT3, gT4, gT5, gT6, gT7, wYes, gAdd, DV.gSub, gMul, gMod, gDiv, gPow, gLt, gLe, gGt, gGe, gCmp, gEq, gNe, gIs, gIsN, isNon, gIn, gNotIn, gIx, gSlc, wSlc, wNoP, wPart, gLen, gAbs, gInt, gMin2, gMax2, gAll, gAny, gSum, gTuple, wNeg, wRev, itemsOf, D.isTy, D.isHand, Sl.toD, big_0, big_1, big_2, big_3, big_4, big_5, big_6, big_7, big_8, big_9, big_10, big_11, big_12, draw_iff, own_ex, val_ex, wipeE, restE, Sl.keep, Option.getD_some, get_z, get_s, set_z, set_s, List.length_cons, List.length_nil, atI_0, atI_1, atI_2, atI_3, atI_4, ixN_5_0, ixN_5_1, ixN_5_2, ixN_5_3, ixN_5_4, D.bl.injEq, D.int.injEq, D.lst.injEq, D.tup.injEq, D.str.injEq, Sl.own.injEq, Sl.val.injEq, Option.some.injEq, exists_eq_left', exists_eq_left, exists_eq', exists_eq, or_true, true_or, or_false, false_or, CMul, CPow, natAbs_10, natAbs_2, Int.cast_ofNat_Int, Nat.reducePow, exists_and_left, exists_const, and_assoc, true_and, and_true, and_self, false_and, and_false, if_true, if_false, ite_true, ite_false, reduceCtorEq, decide_true, decide_false, decide_eq_true_eq, decide_eq_false_iff_not, Bool.not_true, Bool.not_false, Bool.false_eq_true, List.replicate_zero, List.replicate_succ, List.map_cons, List.map_nil, List.nil_append, List.cons_append, Nat.reduceSub, Nat.reduceAdd, Nat.reduceLeDiff, Nat.reduceLT, Int.reduceLT, Int.reduceLE, Int.reduceAdd, Int.reduceSub, Int.reduceMul, Int.reduceNeg, Int.reduceMod, Int.reduceDiv, Int.reducePow, Int.reduceToNat, okD_int, okD_bl, okD_lst, okD_tup, okD_non, okL_nil, okL_cons, okD_str, okL_int, eqD_int, eqD_bl, eqD_str, eqD_tup, eqD_lst, eqL_cons, eqL_nil, eqL_cn, eqL_nc, eqL_int, Bool.and_eq_true, Bool.or_eq_true, Bool.not_eq_true', Bool.and_false, Bool.false_and, Bool.or_false, Bool.false_or, Bool.or_true, Bool.true_or, Bool.and_true, Bool.true_and, Bool.and_self])
  by_cases hb : (b : Int) ^ w ≤ L
  · rw [hk, decide_eq_true hb]
    (try simp only [wSeq, wAsg, wOwn, wF, wLc, wSkip, wBrk, wCnt, wRet, wRetF, wRetN, wDrop, wIfS, wPar, wFor, wWh, wV, wApp, wExt, wSetIx, wAug, wVal, wLook, wC, wOp, wTst, wChain, wAnd, wOr, wNot, wAndV, wOrV, wNotV, wIf, wNil, wCons, wTup, wLst, wCall, wCB, wIsT, wiR1, wiR2, wiSq, wiEn, wiZip, gN, gT1, gT2, gT3, gT4, gT5, gT6, gT7, wYes, gAdd, DV.gSub, gMul, gMod, gDiv, gPow, gLt, gLe, gGt, gGe, gCmp, gEq, gNe, gIs, gIsN, isNon, gIn, gNotIn, gIx, gSlc, wSlc, wNoP, wPart, gLen, gAbs, gInt, gMin2, gMax2, gAll, gAny, gSum, gTuple, wNeg, wRev, itemsOf, D.isTy, D.isHand, Sl.toD, big_0, big_1, big_2, big_3, big_4, big_5, big_6, big_7, big_8, big_9, big_10, big_11, big_12, draw_iff, own_ex, val_ex, wipeE, restE, Sl.keep, Option.getD_some, get_z, get_s, set_z, set_s, List.length_cons, List.length_nil, atI_0, atI_1, atI_2, atI_3, atI_4, ixN_5_0, ixN_5_1, ixN_5_2, ixN_5_3, ixN_5_4, D.bl.injEq, D.int.injEq, D.lst.injEq, D.tup.injEq, D.str.injEq, Sl.own.injEq, Sl.val.injEq, Option.some.injEq, exists_eq_left', exists_eq_left, exists_eq', exists_eq, or_true, true_or, or_false, false_or, CMul, CPow, natAbs_10, natAbs_2, Int.cast_ofNat_Int, Nat.reducePow, exists_and_left, exists_const, and_assoc, true_and, and_true, and_self, false_and, and_false, if_true, if_false, ite_true, ite_false, reduceCtorEq, decide_true, decide_false, decide_eq_true_eq, decide_eq_false_iff_not, Bool.not_true, Bool.not_false, Bool.false_eq_true, List.replicate_zero, List.replicate_succ, List.map_cons, List.map_nil, List.nil_append, List.cons_append, Nat.reduceSub, Nat.reduceAdd, Nat.reduceLeDiff, Nat.reduceLT, Int.reduceLT, Int.reduceLE, Int.reduceAdd, Int.reduceSub, Int.reduceMul, Int.reduceNeg, Int.reduceMod, Int.reduceDiv, Int.reducePow, Int.reduceToNat, okD_int, okD_bl, okD_lst, okD_tup, okD_non, okL_nil, okL_cons, okD_str, okL_int, eqD_int, eqD_bl, eqD_str, eqD_tup, eqD_lst, eqL_cons, eqL_nil, eqL_cn, eqL_nc, eqL_int, Bool.and_eq_true, Bool.or_eq_true, Bool.not_eq_true', Bool.and_false, Bool.false_and, Bool.or_false, Bool.false_or, Bool.or_true, Bool.true_or, Bool.and_true, Bool.true_and, Bool.and_self])
    refine sp_unseen_one f (by omega) (by omega) ?_
    have e : plc (cOne b q 1) 6 b = .tup [.str "seen"] := by
      rcases plc_cases (cOne b q 1) 6 b with ⟨e, _⟩ | ⟨p, g, p1, p2, g1, g2, hc, _⟩
      · exact e
      · exfalso
        unfold cOne at hc
        rw [decide_eq_true_iff, Int.mul_one] at hc
        have hb1 : (b : Int) ≤ (b : Int) ^ w := by
          have f1 := f.h1
          obtain ⟨v, rfl⟩ : ∃ v, w = v + 1 := ⟨w - 1, by omega⟩
          have p : 0 < (b : Int) ^ v := Int.pow_pos (show 0 < (b : Int) by omega)
          have := Int.mul_le_mul_of_nonneg_right (show 1 ≤ (b : Int) ^ v by omega) (show 0 ≤ (b : Int) by omega)
          rwa [Int.one_mul, ← Int.pow_succ] at this
        have := part_zero c (by omega) (by omega) hc
        omega
    simp only [wSeq, wAsg, wOwn, wF, wLc, wSkip, wBrk, wCnt, wRet, wRetF, wRetN, wDrop, wIfS, wPar, wFor, wWh, wV, wApp, wExt, wSetIx, wAug, wVal, wLook, wC, wOp, wTst, wChain, wAnd, wOr, wNot, wAndV, wOrV, wNotV, wIf, wNil, wCons, wTup, wLst, wCall, wCB, wIsT, wiR1, wiR2, wiSq, wiEn, wiZip, gN, gT1, gT2, gT3, gT4, gT5, gT6, gT7, wYes, gAdd, DV.gSub, gMul, gMod, gDiv, gPow, gLt, gLe, gGt, gGe, gCmp, gEq, gNe, gIs, gIsN, isNon, gIn, gNotIn, gIx, gSlc, wSlc, wNoP, wPart, gLen, gAbs, gInt, gMin2, gMax2, gAll, gAny, gSum, gTuple, wNeg, wRev, itemsOf, D.isTy, D.isHand, Sl.toD, big_0, big_1, big_2, big_3, big_4, big_5, big_6, big_7, big_8, big_9, big_10, big_11, big_12, draw_iff, own_ex, val_ex, wipeE, restE, Sl.keep, Option.getD_some, get_z, get_s, set_z, set_s, List.length_cons, List.length_nil, atI_0, atI_1, atI_2, atI_3, atI_4, ixN_5_0, ixN_5_1, ixN_5_2, ixN_5_3, ixN_5_4, D.bl.injEq, D.int.injEq, D.lst.injEq, D.tup.injEq, D.str.injEq, Sl.own.injEq, Sl.val.injEq, Option.some.injEq, exists_eq_left', exists_eq_left, exists_eq', exists_eq, or_true, true_or, or_false, false_or, CMul, CPow, natAbs_10, natAbs_2, Int.cast_ofNat_Int, Nat.reducePow, exists_and_left, exists_const, and_assoc, true_and, and_true, and_self, false_and, and_false, if_true, if_false, ite_true, ite_false, reduceCtorEq, decide_true, decide_false, decide_eq_true_eq, decide_eq_false_iff_not, Bool.not_true, Bool.not_false, Bool.false_eq_true, List.replicate_zero, List.replicate_succ, List.map_cons, List.map_nil, List.nil_append, List.cons_append, Nat.reduceSub, Nat.reduceAdd, Nat.reduceLeDiff, Nat.reduceLT, Int.reduceLT, Int.reduceLE, Int.reduceAdd, Int.reduceSub, Int.reduceMul, Int.reduceNeg, Int.reduceMod, Int.reduceDiv, Int.reducePow, Int.reduceToNat, okD_int, okD_bl, okD_lst, okD_tup, okD_non, okL_nil, okL_cons, okD_str, okL_int, eqD_int, eqD_bl, eqD_str, eqD_tup, eqD_lst, eqL_cons, eqL_nil, eqL_cn, eqL_nc, eqL_int, Bool.and_eq_true, Bool.or_eq_true, Bool.not_eq_true', Bool.and_false, Bool.false_and, Bool.or_false, Bool.false_or, Bool.or_true, Bool.true_or, Bool.and_true, Bool.true_and, Bool.and_self, e, ok_s]
    exact h _
  · rw [hk, decide_eq_false hb]
    (try simp only [wSeq, wAsg, wOwn, wF, wLc, wSkip, wBrk, wCnt, wRet, wRetF, wRetN, wDrop, wIfS, wPar, wFor, wWh, wV, wApp, wExt, wSetIx, wAug, wVal, wLook, wC, wOp, wTst, wChain, wAnd, wOr, wNot, wAndV, wOrV, wNotV, wIf, wNil, wCons, wTup, wLst, wCall, wCB, wIsT, wiR1, wiR2, wiSq, wiEn, wiZip, gN, gT1, gT2, gT3, gT4, gT5, gT6, gT7, wYes, gAdd, DV.gSub, gMul, gMod, gDiv, gPow, gLt, gLe, gGt, gGe, gCmp, gEq, gNe, gIs, gIsN, isNon, gIn, gNotIn, gIx, gSlc, wSlc, wNoP, wPart, gLen, gAbs, gInt, gMin2, gMax2, gAll, gAny, gSum, gTuple, wNeg, wRev, itemsOf, D.isTy, D.isHand, Sl.toD, big_0, big_1, big_2, big_3, big_4, big_5, big_6, big_7, big_8, big_9, big_10, big_11, big_12, draw_iff, own_ex, val_ex, wipeE, restE, Sl.keep, Option.getD_some, get_z, get_s, set_z, set_s, List.length_cons, List.length_nil, atI_0, atI_1, atI_2, atI_3, atI_4, ixN_5_0, ixN_5_1, ixN_5_2, ixN_5_3, ixN_5_4, D.bl.injEq, D.int.injEq, D.lst.injEq, D.tup.injEq, D.str.injEq, Sl.own.injEq, Sl.val.injEq, Option.some.injEq, exists_eq_left', exists_eq_left, exists_eq', exists_eq, or_true, true_or, or_false, false_or, CMul, CPow, natAbs_10, natAbs_2, Int.cast_ofNat_Int, Nat.reducePow, exists_and_left, exists_const, and_assoc, true_and, and_true, and_self, false_and, and_false, if_true, if_false, ite_true, ite_false, reduceCtorEq, decide_true, decide_false, decide_eq_true_eq, decide_eq_false_iff_not, Bool.not_true, Bool.not_false, Bool.false_eq_true, List.replicate_zero, List.replicate_succ, List.map_cons, List.map_nil, List.nil_append, List.cons_append, Nat.reduceSub, Nat.reduceAdd, Nat.reduceLeDiff, Nat.reduceLT, Int.reduceLT, Int.reduceLE, Int.reduceAdd, Int.reduceSub, Int.reduceMul, Int.reduceNeg, Int.reduceMod, Int.reduceDiv, Int.reducePow, Int.reduceToNat, okD_int, okD_bl, okD_lst, okD_tup, okD_non, okL_nil, okL_cons, okD_str, okL_int, eqD_int, eqD_bl, eqD_str, eqD_tup, eqD_lst, eqL_cons, eqL_nil, eqL_cn, eqL_nc, eqL_int, Bool.and_eq_true, Bool.or_eq_true, Bool.not_eq_true', Bool.and_false, Bool.false_and, Bool.or_false, Bool.false_or, Bool.or_true, Bool.true_or, Bool.and_true, Bool.true_and, Bool.and_self])
    exact h _
theorem l14 {b q w : Nat} (f : FitOk b q) (hw : 1 ≤ w) (hw4 : w ≤ 4) {L : Nat} (c : CoPart b q L) {k : Bool} (hk : k = decide ((b : Int) ^ w ≤ L)) {s3 s4 s5 s6 s7 s8 s11 s12 s13 s14 : Sl} {P : Post} (h : ∀ e, P.rt (.bl true) e) :
    B__law_is_right_14 [.val .hand, .val (.int b), .val (.int q), s3, s4, s5, s6, s7, s8, .val (.int w), .val (.bl k), s11, s12, s13, s14, .no] P := by
  have f' := f
  obtain ⟨g1, g2, g3, g4, g5⟩ := f'
  unfold B__law_is_right_14
  (try simp only [wSeq, wAsg, wOwn, wF, wLc, wSkip, wBrk, wCnt, wRet, wRetF, wRetN, wDrop, wIfS, wPar, wFor, wWh, wV, wApp, wExt, wSetIx, wAug, wVal, wLook, wC, wOp, wTst, wChain, wAnd, wOr, wNot, wAndV, wOrV, wNotV, wIf, wNil, wCons, wTup, wLst, wCall, wCB, wIsT, wiR1, wiR2, wiSq, wiEn, wiZip, gN, gT1, gT2, gT3, gT4, gT5, gT6, gT7, wYes, gAdd, DV.gSub, gMul, gMod, gDiv, gPow, gLt, gLe, gGt, gGe, gCmp, gEq, gNe, gIs, gIsN, isNon, gIn, gNotIn, gIx, gSlc, wSlc, wNoP, wPart, gLen, gAbs, gInt, gMin2, gMax2, gAll, gAny, gSum, gTuple, wNeg, wRev, itemsOf, D.isTy, D.isHand, Sl.toD, big_0, big_1, big_2, big_3, big_4, big_5, big_6, big_7, big_8, big_9, big_10, big_11, big_12, draw_iff, own_ex, val_ex, wipeE, restE, Sl.keep, Option.getD_some, get_z, get_s, set_z, set_s, List.length_cons, List.length_nil, atI_0, atI_1, atI_2, atI_3, atI_4, ixN_5_0, ixN_5_1, ixN_5_2, ixN_5_3, ixN_5_4, D.bl.injEq, D.int.injEq, D.lst.injEq, D.tup.injEq, D.str.injEq, Sl.own.injEq, Sl.val.injEq, Option.some.injEq, exists_eq_left', exists_eq_left, exists_eq', exists_eq, or_true, true_or, or_false, false_or, CMul, CPow, natAbs_10, natAbs_2, Int.cast_ofNat_Int, Nat.reducePow, exists_and_left, exists_const, and_assoc, true_and, and_true, and_self, false_and, and_false, if_true, if_false, ite_true, ite_false, reduceCtorEq, decide_true, decide_false, decide_eq_true_eq, decide_eq_false_iff_not, Bool.not_true, Bool.not_false, Bool.false_eq_true, List.replicate_zero, List.replicate_succ, List.map_cons, List.map_nil, List.nil_append, List.cons_append, Nat.reduceSub, Nat.reduceAdd, Nat.reduceLeDiff, Nat.reduceLT, Int.reduceLT, Int.reduceLE, Int.reduceAdd, Int.reduceSub, Int.reduceMul, Int.reduceNeg, Int.reduceMod, Int.reduceDiv, Int.reducePow, Int.reduceToNat, okD_int, okD_bl, okD_lst, okD_tup, okD_non, okL_nil, okL_cons, okD_str, okL_int, eqD_int, eqD_bl, eqD_str, eqD_tup, eqD_lst, eqL_cons, eqL_nil, eqL_cn, eqL_nc, eqL_int, Bool.and_eq_true, Bool.or_eq_true, Bool.not_eq_true', Bool.and_false, Bool.false_and, Bool.or_false, Bool.false_or, Bool.or_true, Bool.true_or, Bool.and_true, Bool.true_and, Bool.and_self])
  intro d d1 d2
  obtain ⟨n, hn⟩ := Int.eq_ofNat_of_zero_le (show 0 ≤ (w : Int) + d by omega)
  rw [hn]
  unfold B__law_is_right_15
  simp only [wSeq, wAsg, wOwn, wF, wLc, wSkip, wBrk, wCnt, wRet, wRetF, wRetN, wDrop, wIfS, wPar, wFor, wWh, wV, wApp, wExt, wSetIx, wAug, wVal, wLook, wC, wOp, wTst, wChain, wAnd, wOr, wNot, wAndV, wOrV, wNotV, wIf, wNil, wCons, wTup, wLst, wCall, wCB, wIsT, wiR1, wiR2, wiSq, wiEn, wiZip, gN, gT1, gT2, gT3, gT4, gT5, gT6, gT7, wYes, gAdd, DV.gSub, gMul, gMod, gDiv, gPow, gLt, gLe, gGt, gGe, gCmp, gEq, gNe, gIs, gIsN, isNon, gIn, gNotIn, gIx, gSlc, wSlc, wNoP, wPart, gLen, gAbs, gInt, gMin2, gMax2, gAll, gAny, gSum, gTuple, wNeg, wRev, itemsOf, D.isTy, D.isHand, Sl.toD, big_0, big_1, big_2, big_3, big_4, big_5, big_6, big_7, big_8, big_9, big_10, big_11, big_12, draw_iff, own_ex, val_ex, wipeE, restE, Sl.keep, Option.getD_some, get_z, get_s, set_z, set_s, List.length_cons, List.length_nil, atI_0, atI_1, atI_2, atI_3, atI_4, ixN_5_0, ixN_5_1, ixN_5_2, ixN_5_3, ixN_5_4, D.bl.injEq, D.int.injEq, D.lst.injEq, D.tup.injEq, D.str.injEq, Sl.own.injEq, Sl.val.injEq, Option.some.injEq, exists_eq_left', exists_eq_left, exists_eq', exists_eq, or_true, true_or, or_false, false_or, CMul, CPow, natAbs_10, natAbs_2, Int.cast_ofNat_Int, Nat.reducePow, exists_and_left, exists_const, and_assoc, true_and, and_true, and_self, false_and, and_false, if_true, if_false, ite_true, ite_false, reduceCtorEq, decide_true, decide_false, decide_eq_true_eq, decide_eq_false_iff_not, Bool.not_true, Bool.not_false, Bool.false_eq_true, List.replicate_zero, List.replicate_succ, List.map_cons, List.map_nil, List.nil_append, List.cons_append, Nat.reduceSub, Nat.reduceAdd, Nat.reduceLeDiff, Nat.reduceLT, Int.reduceLT, Int.reduceLE, Int.reduceAdd, Int.reduceSub, Int.reduceMul, Int.reduceNeg, Int.reduceMod, Int.reduceDiv, Int.reducePow, Int.reduceToNat, okD_int, okD_bl, okD_lst, okD_tup, okD_non, okL_nil, okL_cons, okD_str, okL_int, eqD_int, eqD_bl, eqD_str, eqD_tup, eqD_lst, eqL_cons, eqL_nil, eqL_cn, eqL_nc, eqL_int, Bool.and_eq_true, Bool.or_eq_true, Bool.not_eq_true', Bool.and_false, Bool.false_and, Bool.or_false, Bool.false_or, Bool.or_true, Bool.true_or, Bool.and_true, Bool.true_and, Bool.and_self, rangeD_len]
  refine ⟨by omega, by omega, by unfold big; omega, ?_⟩
  refine lc_ints (fun x => 0 ≤ x ∧ x < b) (fun x hx K' hk => ?_) fun ws hl hws _ => ?_
  · (try simp only [wSeq, wAsg, wOwn, wF, wLc, wSkip, wBrk, wCnt, wRet, wRetF, wRetN, wDrop, wIfS, wPar, wFor, wWh, wV, wApp, wExt, wSetIx, wAug, wVal, wLook, wC, wOp, wTst, wChain, wAnd, wOr, wNot, wAndV, wOrV, wNotV, wIf, wNil, wCons, wTup, wLst, wCall, wCB, wIsT, wiR1, wiR2, wiSq, wiEn, wiZip, gN, gT1, gT2, gT3, gT4, gT5, gT6, gT7, wYes, gAdd, DV.gSub, gMul, gMod, gDiv, gPow, gLt, gLe, gGt, gGe, gCmp, gEq, gNe, gIs, gIsN, isNon, gIn, gNotIn, gIx, gSlc, wSlc, wNoP, wPart, gLen, gAbs, gInt, gMin2, gMax2, gAll, gAny, gSum, gTuple, wNeg, wRev, itemsOf, D.isTy, D.isHand, Sl.toD, big_0, big_1, big_2, big_3, big_4, big_5, big_6, big_7, big_8, big_9, big_10, big_11, big_12, draw_iff, own_ex, val_ex, wipeE, restE, Sl.keep, Option.getD_some, get_z, get_s, set_z, set_s, List.length_cons, List.length_nil, atI_0, atI_1, atI_2, atI_3, atI_4, ixN_5_0, ixN_5_1, ixN_5_2, ixN_5_3, ixN_5_4, D.bl.injEq, D.int.injEq, D.lst.injEq, D.tup.injEq, D.str.injEq, Sl.own.injEq, Sl.val.injEq, Option.some.injEq, exists_eq_left', exists_eq_left, exists_eq', exists_eq, or_true, true_or, or_false, false_or, CMul, CPow, natAbs_10, natAbs_2, Int.cast_ofNat_Int, Nat.reducePow, exists_and_left, exists_const, and_assoc, true_and, and_true, and_self, false_and, and_false, if_true, if_false, ite_true, ite_false, reduceCtorEq, decide_true, decide_false, decide_eq_true_eq, decide_eq_false_iff_not, Bool.not_true, Bool.not_false, Bool.false_eq_true, List.replicate_zero, List.replicate_succ, List.map_cons, List.map_nil, List.nil_append, List.cons_append, Nat.reduceSub, Nat.reduceAdd, Nat.reduceLeDiff, Nat.reduceLT, Int.reduceLT, Int.reduceLE, Int.reduceAdd, Int.reduceSub, Int.reduceMul, Int.reduceNeg, Int.reduceMod, Int.reduceDiv, Int.reducePow, Int.reduceToNat, okD_int, okD_bl, okD_lst, okD_tup, okD_non, okL_nil, okL_cons, okD_str, okL_int, eqD_int, eqD_bl, eqD_str, eqD_tup, eqD_lst, eqL_cons, eqL_nil, eqL_cn, eqL_nc, eqL_int, Bool.and_eq_true, Bool.or_eq_true, Bool.not_eq_true', Bool.and_false, Bool.false_and, Bool.or_false, Bool.false_or, Bool.or_true, Bool.true_or, Bool.and_true, Bool.true_and, Bool.and_self])
    exact ⟨by omega, by omega, fun d d1 d2 => hk d ⟨d1, d2⟩⟩
  rw [rangeD_len] at hl
  (try simp only [wSeq, wAsg, wOwn, wF, wLc, wSkip, wBrk, wCnt, wRet, wRetF, wRetN, wDrop, wIfS, wPar, wFor, wWh, wV, wApp, wExt, wSetIx, wAug, wVal, wLook, wC, wOp, wTst, wChain, wAnd, wOr, wNot, wAndV, wOrV, wNotV, wIf, wNil, wCons, wTup, wLst, wCall, wCB, wIsT, wiR1, wiR2, wiSq, wiEn, wiZip, gN, gT1, gT2, gT3, gT4, gT5, gT6, gT7, wYes, gAdd, DV.gSub, gMul, gMod, gDiv, gPow, gLt, gLe, gGt, gGe, gCmp, gEq, gNe, gIs, gIsN, isNon, gIn, gNotIn, gIx, gSlc, wSlc, wNoP, wPart, gLen, gAbs, gInt, gMin2, gMax2, gAll, gAny, gSum, gTuple, wNeg, wRev, itemsOf, D.isTy, D.isHand, Sl.toD, big_0, big_1, big_2, big_3, big_4, big_5, big_6, big_7, big_8, big_9, big_10, big_11, big_12, draw_iff, own_ex, val_ex, wipeE, restE, Sl.keep, Option.getD_some, get_z, get_s, set_z, set_s, List.length_cons, List.length_nil, atI_0, atI_1, atI_2, atI_3, atI_4, ixN_5_0, ixN_5_1, ixN_5_2, ixN_5_3, ixN_5_4, D.bl.injEq, D.int.injEq, D.lst.injEq, D.tup.injEq, D.str.injEq, Sl.own.injEq, Sl.val.injEq, Option.some.injEq, exists_eq_left', exists_eq_left, exists_eq', exists_eq, or_true, true_or, or_false, false_or, CMul, CPow, natAbs_10, natAbs_2, Int.cast_ofNat_Int, Nat.reducePow, exists_and_left, exists_const, and_assoc, true_and, and_true, and_self, false_and, and_false, if_true, if_false, ite_true, ite_false, reduceCtorEq, decide_true, decide_false, decide_eq_true_eq, decide_eq_false_iff_not, Bool.not_true, Bool.not_false, Bool.false_eq_true, List.replicate_zero, List.replicate_succ, List.map_cons, List.map_nil, List.nil_append, List.cons_append, Nat.reduceSub, Nat.reduceAdd, Nat.reduceLeDiff, Nat.reduceLT, Int.reduceLT, Int.reduceLE, Int.reduceAdd, Int.reduceSub, Int.reduceMul, Int.reduceNeg, Int.reduceMod, Int.reduceDiv, Int.reducePow, Int.reduceToNat, okD_int, okD_bl, okD_lst, okD_tup, okD_non, okL_nil, okL_cons, okD_str, okL_int, eqD_int, eqD_bl, eqD_str, eqD_tup, eqD_lst, eqL_cons, eqL_nil, eqL_cn, eqL_nc, eqL_int, Bool.and_eq_true, Bool.or_eq_true, Bool.not_eq_true', Bool.and_false, Bool.false_and, Bool.or_false, Bool.false_or, Bool.or_true, Bool.true_or, Bool.and_true, Bool.true_and, Bool.and_self])
  unfold B__law_is_right_16
  (try simp only [wSeq, wAsg, wOwn, wF, wLc, wSkip, wBrk, wCnt, wRet, wRetF, wRetN, wDrop, wIfS, wPar, wFor, wWh, wV, wApp, wExt, wSetIx, wAug, wVal, wLook, wC, wOp, wTst, wChain, wAnd, wOr, wNot, wAndV, wOrV, wNotV, wIf, wNil, wCons, wTup, wLst, wCall, wCB, wIsT, wiR1, wiR2, wiSq, wiEn, wiZip, gN, gT1, gT2, gT3, gT4, gT5, gT6, gT7, wYes, gAdd, DV.gSub, gMul, gMod, gDiv, gPow, gLt, gLe, gGt, gGe, gCmp, gEq, gNe, gIs, gIsN, isNon, gIn, gNotIn, gIx, gSlc, wSlc, wNoP, wPart, gLen, gAbs, gInt, gMin2, gMax2, gAll, gAny, gSum, gTuple, wNeg, wRev, itemsOf, D.isTy, D.isHand, Sl.toD, big_0, big_1, big_2, big_3, big_4, big_5, big_6, big_7, big_8, big_9, big_10, big_11, big_12, draw_iff, own_ex, val_ex, wipeE, restE, Sl.keep, Option.getD_some, get_z, get_s, set_z, set_s, List.length_cons, List.length_nil, atI_0, atI_1, atI_2, atI_3, atI_4, ixN_5_0, ixN_5_1, ixN_5_2, ixN_5_3, ixN_5_4, D.bl.injEq, D.int.injEq, D.lst.injEq, D.tup.injEq, D.str.injEq, Sl.own.injEq, Sl.val.injEq, Option.some.injEq, exists_eq_left', exists_eq_left, exists_eq', exists_eq, or_true, true_or, or_false, false_or, CMul, CPow, natAbs_10, natAbs_2, Int.cast_ofNat_Int, Nat.reducePow, exists_and_left, exists_const, and_assoc, true_and, and_true, and_self, false_and, and_false, if_true, if_false, ite_true, ite_false, reduceCtorEq, decide_true, decide_false, decide_eq_true_eq, decide_eq_false_iff_not, Bool.not_true, Bool.not_false, Bool.false_eq_true, List.replicate_zero, List.replicate_succ, List.map_cons, List.map_nil, List.nil_append, List.cons_append, Nat.reduceSub, Nat.reduceAdd, Nat.reduceLeDiff, Nat.reduceLT, Int.reduceLT, Int.reduceLE, Int.reduceAdd, Int.reduceSub, Int.reduceMul, Int.reduceNeg, Int.reduceMod, Int.reduceDiv, Int.reducePow, Int.reduceToNat, okD_int, okD_bl, okD_lst, okD_tup, okD_non, okL_nil, okL_cons, okD_str, okL_int, eqD_int, eqD_bl, eqD_str, eqD_tup, eqD_lst, eqL_cons, eqL_nil, eqL_cn, eqL_nc, eqL_int, Bool.and_eq_true, Bool.or_eq_true, Bool.not_eq_true', Bool.and_false, Bool.false_and, Bool.or_false, Bool.false_or, Bool.or_true, Bool.true_or, Bool.and_true, Bool.true_and, Bool.and_self])
  refine ⟨by omega, by omega, fun a a1 a2 => ?_⟩
  obtain ⟨a, rfl⟩ := Int.eq_ofNat_of_zero_le a1
  unfold B__law_is_right_17
  simp only [wSeq, wAsg, wOwn, wF, wLc, wSkip, wBrk, wCnt, wRet, wRetF, wRetN, wDrop, wIfS, wPar, wFor, wWh, wV, wApp, wExt, wSetIx, wAug, wVal, wLook, wC, wOp, wTst, wChain, wAnd, wOr, wNot, wAndV, wOrV, wNotV, wIf, wNil, wCons, wTup, wLst, wCall, wCB, wIsT, wiR1, wiR2, wiSq, wiEn, wiZip, gN, gT1, gT2, gT3, gT4, gT5, gT6, gT7, wYes, gAdd, DV.gSub, gMul, gMod, gDiv, gPow, gLt, gLe, gGt, gGe, gCmp, gEq, gNe, gIs, gIsN, isNon, gIn, gNotIn, gIx, gSlc, wSlc, wNoP, wPart, gLen, gAbs, gInt, gMin2, gMax2, gAll, gAny, gSum, gTuple, wNeg, wRev, itemsOf, D.isTy, D.isHand, Sl.toD, big_0, big_1, big_2, big_3, big_4, big_5, big_6, big_7, big_8, big_9, big_10, big_11, big_12, draw_iff, own_ex, val_ex, wipeE, restE, Sl.keep, Option.getD_some, get_z, get_s, set_z, set_s, List.length_cons, List.length_nil, atI_0, atI_1, atI_2, atI_3, atI_4, ixN_5_0, ixN_5_1, ixN_5_2, ixN_5_3, ixN_5_4, D.bl.injEq, D.int.injEq, D.lst.injEq, D.tup.injEq, D.str.injEq, Sl.own.injEq, Sl.val.injEq, Option.some.injEq, exists_eq_left', exists_eq_left, exists_eq', exists_eq, or_true, true_or, or_false, false_or, CMul, CPow, natAbs_10, natAbs_2, Int.cast_ofNat_Int, Nat.reducePow, exists_and_left, exists_const, and_assoc, true_and, and_true, and_self, false_and, and_false, if_true, if_false, ite_true, ite_false, reduceCtorEq, decide_true, decide_false, decide_eq_true_eq, decide_eq_false_iff_not, Bool.not_true, Bool.not_false, Bool.false_eq_true, List.replicate_zero, List.replicate_succ, List.map_cons, List.map_nil, List.nil_append, List.cons_append, Nat.reduceSub, Nat.reduceAdd, Nat.reduceLeDiff, Nat.reduceLT, Int.reduceLT, Int.reduceLE, Int.reduceAdd, Int.reduceSub, Int.reduceMul, Int.reduceNeg, Int.reduceMod, Int.reduceDiv, Int.reducePow, Int.reduceToNat, okD_int, okD_bl, okD_lst, okD_tup, okD_non, okL_nil, okL_cons, okD_str, okL_int, eqD_int, eqD_bl, eqD_str, eqD_tup, eqD_lst, eqL_cons, eqL_nil, eqL_cn, eqL_nc, eqL_int, Bool.and_eq_true, Bool.or_eq_true, Bool.not_eq_true', Bool.and_false, Bool.false_and, Bool.or_false, Bool.false_or, Bool.or_true, Bool.true_or, Bool.and_true, Bool.true_and, Bool.and_self, rangeD_len, cI_to, cI_from (ws := ws) (show (a : Int) + w = ((a + w : Nat) : Int) by omega)]
  refine ⟨by omega, by omega, by unfold big; omega, ?_⟩
  refine lc_ints (fun x => 0 ≤ x ∧ x < b) (fun x hx K' hk => ?_) fun vs hl2 hvs _ => ?_
  · (try simp only [wSeq, wAsg, wOwn, wF, wLc, wSkip, wBrk, wCnt, wRet, wRetF, wRetN, wDrop, wIfS, wPar, wFor, wWh, wV, wApp, wExt, wSetIx, wAug, wVal, wLook, wC, wOp, wTst, wChain, wAnd, wOr, wNot, wAndV, wOrV, wNotV, wIf, wNil, wCons, wTup, wLst, wCall, wCB, wIsT, wiR1, wiR2, wiSq, wiEn, wiZip, gN, gT1, gT2, gT3, gT4, gT5, gT6, gT7, wYes, gAdd, DV.gSub, gMul, gMod, gDiv, gPow, gLt, gLe, gGt, gGe, gCmp, gEq, gNe, gIs, gIsN, isNon, gIn, gNotIn, gIx, gSlc, wSlc, wNoP, wPart, gLen, gAbs, gInt, gMin2, gMax2, gAll, gAny, gSum, gTuple, wNeg, wRev, itemsOf, D.isTy, D.isHand, Sl.toD, big_0, big_1, big_2, big_3, big_4, big_5, big_6, big_7, big_8, big_9, big_10, big_11, big_12, draw_iff, own_ex, val_ex, wipeE, restE, Sl.keep, Option.getD_some, get_z, get_s, set_z, set_s, List.length_cons, List.length_nil, atI_0, atI_1, atI_2, atI_3, atI_4, ixN_5_0, ixN_5_1, ixN_5_2, ixN_5_3, ixN_5_4, D.bl.injEq, D.int.injEq, D.lst.injEq, D.tup.injEq, D.str.injEq, Sl.own.injEq, Sl.val.injEq, Option.some.injEq, exists_eq_left', exists_eq_left, exists_eq', exists_eq, or_true, true_or, or_false, false_or, CMul, CPow, natAbs_10, natAbs_2, Int.cast_ofNat_Int, Nat.reducePow, exists_and_left, exists_const, and_assoc, true_and, and_true, and_self, false_and, and_false, if_true, if_false, ite_true, ite_false, reduceCtorEq, decide_true, decide_false, decide_eq_true_eq, decide_eq_false_iff_not, Bool.not_true, Bool.not_false, Bool.false_eq_true, List.replicate_zero, List.replicate_succ, List.map_cons, List.map_nil, List.nil_append, List.cons_append, Nat.reduceSub, Nat.reduceAdd, Nat.reduceLeDiff, Nat.reduceLT, Int.reduceLT, Int.reduceLE, Int.reduceAdd, Int.reduceSub, Int.reduceMul, Int.reduceNeg, Int.reduceMod, Int.reduceDiv, Int.reducePow, Int.reduceToNat, okD_int, okD_bl, okD_lst, okD_tup, okD_non, okL_nil, okL_cons, okD_str, okL_int, eqD_int, eqD_bl, eqD_str, eqD_tup, eqD_lst, eqL_cons, eqL_nil, eqL_cn, eqL_nc, eqL_int, Bool.and_eq_true, Bool.or_eq_true, Bool.not_eq_true', Bool.and_false, Bool.false_and, Bool.or_false, Bool.false_or, Bool.or_true, Bool.true_or, Bool.and_true, Bool.true_and, Bool.and_self])
    exact ⟨by omega, by omega, fun d d1 d2 => hk d ⟨d1, d2⟩⟩
  rw [rangeD_len] at hl2
  simp only [wSeq, wAsg, wOwn, wF, wLc, wSkip, wBrk, wCnt, wRet, wRetF, wRetN, wDrop, wIfS, wPar, wFor, wWh, wV, wApp, wExt, wSetIx, wAug, wVal, wLook, wC, wOp, wTst, wChain, wAnd, wOr, wNot, wAndV, wOrV, wNotV, wIf, wNil, wCons, wTup, wLst, wCall, wCB, wIsT, wiR1, wiR2, wiSq, wiEn, wiZip, gN, gT1, gT2, gT3, gT4, gT5, gT6, gT7, wYes, gAdd, DV.gSub, gMul, gMod, gDiv, gPow, gLt, gLe, gGt, gGe, gCmp, gEq, gNe, gIs, gIsN, isNon, gIn, gNotIn, gIx, gSlc, wSlc, wNoP, wPart, gLen, gAbs, gInt, gMin2, gMax2, gAll, gAny, gSum, gTuple, wNeg, wRev, itemsOf, D.isTy, D.isHand, Sl.toD, big_0, big_1, big_2, big_3, big_4, big_5, big_6, big_7, big_8, big_9, big_10, big_11, big_12, draw_iff, own_ex, val_ex, wipeE, restE, Sl.keep, Option.getD_some, get_z, get_s, set_z, set_s, List.length_cons, List.length_nil, atI_0, atI_1, atI_2, atI_3, atI_4, ixN_5_0, ixN_5_1, ixN_5_2, ixN_5_3, ixN_5_4, D.bl.injEq, D.int.injEq, D.lst.injEq, D.tup.injEq, D.str.injEq, Sl.own.injEq, Sl.val.injEq, Option.some.injEq, exists_eq_left', exists_eq_left, exists_eq', exists_eq, or_true, true_or, or_false, false_or, CMul, CPow, natAbs_10, natAbs_2, Int.cast_ofNat_Int, Nat.reducePow, exists_and_left, exists_const, and_assoc, true_and, and_true, and_self, false_and, and_false, if_true, if_false, ite_true, ite_false, reduceCtorEq, decide_true, decide_false, decide_eq_true_eq, decide_eq_false_iff_not, Bool.not_true, Bool.not_false, Bool.false_eq_true, List.replicate_zero, List.replicate_succ, List.map_cons, List.map_nil, List.nil_append, List.cons_append, Nat.reduceSub, Nat.reduceAdd, Nat.reduceLeDiff, Nat.reduceLT, Int.reduceLT, Int.reduceLE, Int.reduceAdd, Int.reduceSub, Int.reduceMul, Int.reduceNeg, Int.reduceMod, Int.reduceDiv, Int.reducePow, Int.reduceToNat, okD_int, okD_bl, okD_lst, okD_tup, okD_non, okL_nil, okL_cons, okD_str, okL_int, eqD_int, eqD_bl, eqD_str, eqD_tup, eqD_lst, eqL_cons, eqL_nil, eqL_cn, eqL_nc, eqL_int, Bool.and_eq_true, Bool.or_eq_true, Bool.not_eq_true', Bool.and_false, Bool.false_and, Bool.or_false, Bool.false_or, Bool.or_true, Bool.true_or, Bool.and_true, Bool.true_and, Bool.and_self, cI_to, cI_from (ws := ws) (show (a : Int) + w = ((a + w : Nat) : Int) by omega)]
  refine ⟨by unfold big; simp; omega, by unfold big; simp; omega, ?_⟩
  rw [map3]
  unfold B__law_is_right_18
  (try simp only [wSeq, wAsg, wOwn, wF, wLc, wSkip, wBrk, wCnt, wRet, wRetF, wRetN, wDrop, wIfS, wPar, wFor, wWh, wV, wApp, wExt, wSetIx, wAug, wVal, wLook, wC, wOp, wTst, wChain, wAnd, wOr, wNot, wAndV, wOrV, wNotV, wIf, wNil, wCons, wTup, wLst, wCall, wCB, wIsT, wiR1, wiR2, wiSq, wiEn, wiZip, gN, gT1, gT2, gT3, gT4, gT5, gT6, gT7, wYes, gAdd, DV.gSub, gMul, gMod, gDiv, gPow, gLt, gLe, gGt, gGe, gCmp, gEq, gNe, gIs, gIsN, isNon, gIn, gNotIn, gIx, gSlc, wSlc, wNoP, wPart, gLen, gAbs, gInt, gMin2, gMax2, gAll, gAny, gSum, gTuple, wNeg, wRev, itemsOf, D.isTy, D.isHand, Sl.toD, big_0, big_1, big_2, big_3, big_4, big_5, big_6, big_7, big_8, big_9, big_10, big_11, big_12, draw_iff, own_ex, val_ex, wipeE, restE, Sl.keep, Option.getD_some, get_z, get_s, set_z, set_s, List.length_cons, List.length_nil, atI_0, atI_1, atI_2, atI_3, atI_4, ixN_5_0, ixN_5_1, ixN_5_2, ixN_5_3, ixN_5_4, D.bl.injEq, D.int.injEq, D.lst.injEq, D.tup.injEq, D.str.injEq, Sl.own.injEq, Sl.val.injEq, Option.some.injEq, exists_eq_left', exists_eq_left, exists_eq', exists_eq, or_true, true_or, or_false, false_or, CMul, CPow, natAbs_10, natAbs_2, Int.cast_ofNat_Int, Nat.reducePow, exists_and_left, exists_const, and_assoc, true_and, and_true, and_self, false_and, and_false, if_true, if_false, ite_true, ite_false, reduceCtorEq, decide_true, decide_false, decide_eq_true_eq, decide_eq_false_iff_not, Bool.not_true, Bool.not_false, Bool.false_eq_true, List.replicate_zero, List.replicate_succ, List.map_cons, List.map_nil, List.nil_append, List.cons_append, Nat.reduceSub, Nat.reduceAdd, Nat.reduceLeDiff, Nat.reduceLT, Int.reduceLT, Int.reduceLE, Int.reduceAdd, Int.reduceSub, Int.reduceMul, Int.reduceNeg, Int.reduceMod, Int.reduceDiv, Int.reducePow, Int.reduceToNat, okD_int, okD_bl, okD_lst, okD_tup, okD_non, okL_nil, okL_cons, okD_str, okL_int, eqD_int, eqD_bl, eqD_str, eqD_tup, eqD_lst, eqL_cons, eqL_nil, eqL_cn, eqL_nc, eqL_int, Bool.and_eq_true, Bool.or_eq_true, Bool.not_eq_true', Bool.and_false, Bool.false_and, Bool.or_false, Bool.false_or, Bool.or_true, Bool.true_or, Bool.and_true, Bool.true_and, Bool.and_self])
  refine sp_law_number (by omega) ?_
  (try simp only [wSeq, wAsg, wOwn, wF, wLc, wSkip, wBrk, wCnt, wRet, wRetF, wRetN, wDrop, wIfS, wPar, wFor, wWh, wV, wApp, wExt, wSetIx, wAug, wVal, wLook, wC, wOp, wTst, wChain, wAnd, wOr, wNot, wAndV, wOrV, wNotV, wIf, wNil, wCons, wTup, wLst, wCall, wCB, wIsT, wiR1, wiR2, wiSq, wiEn, wiZip, gN, gT1, gT2, gT3, gT4, gT5, gT6, gT7, wYes, gAdd, DV.gSub, gMul, gMod, gDiv, gPow, gLt, gLe, gGt, gGe, gCmp, gEq, gNe, gIs, gIsN, isNon, gIn, gNotIn, gIx, gSlc, wSlc, wNoP, wPart, gLen, gAbs, gInt, gMin2, gMax2, gAll, gAny, gSum, gTuple, wNeg, wRev, itemsOf, D.isTy, D.isHand, Sl.toD, big_0, big_1, big_2, big_3, big_4, big_5, big_6, big_7, big_8, big_9, big_10, big_11, big_12, draw_iff, own_ex, val_ex, wipeE, restE, Sl.keep, Option.getD_some, get_z, get_s, set_z, set_s, List.length_cons, List.length_nil, atI_0, atI_1, atI_2, atI_3, atI_4, ixN_5_0, ixN_5_1, ixN_5_2, ixN_5_3, ixN_5_4, D.bl.injEq, D.int.injEq, D.lst.injEq, D.tup.injEq, D.str.injEq, Sl.own.injEq, Sl.val.injEq, Option.some.injEq, exists_eq_left', exists_eq_left, exists_eq', exists_eq, or_true, true_or, or_false, false_or, CMul, CPow, natAbs_10, natAbs_2, Int.cast_ofNat_Int, Nat.reducePow, exists_and_left, exists_const, and_assoc, true_and, and_true, and_self, false_and, and_false, if_true, if_false, ite_true, ite_false, reduceCtorEq, decide_true, decide_false, decide_eq_true_eq, decide_eq_false_iff_not, Bool.not_true, Bool.not_false, Bool.false_eq_true, List.replicate_zero, List.replicate_succ, List.map_cons, List.map_nil, List.nil_append, List.cons_append, Nat.reduceSub, Nat.reduceAdd, Nat.reduceLeDiff, Nat.reduceLT, Int.reduceLT, Int.reduceLE, Int.reduceAdd, Int.reduceSub, Int.reduceMul, Int.reduceNeg, Int.reduceMod, Int.reduceDiv, Int.reducePow, Int.reduceToNat, okD_int, okD_bl, okD_lst, okD_tup, okD_non, okL_nil, okL_cons, okD_str, okL_int, eqD_int, eqD_bl, eqD_str, eqD_tup, eqD_lst, eqL_cons, eqL_nil, eqL_cn, eqL_nc, eqL_int, Bool.and_eq_true, Bool.or_eq_true, Bool.not_eq_true', Bool.and_false, Bool.false_and, Bool.or_false, Bool.false_or, Bool.or_true, Bool.true_or, Bool.and_true, Bool.true_and, Bool.and_self])
  refine ⟨by omega, ?_⟩
  refine sp_law_number (by omega) ?_
  (try simp only [wSeq, wAsg, wOwn, wF, wLc, wSkip, wBrk, wCnt, wRet, wRetF, wRetN, wDrop, wIfS, wPar, wFor, wWh, wV, wApp, wExt, wSetIx, wAug, wVal, wLook, wC, wOp, wTst, wChain, wAnd, wOr, wNot, wAndV, wOrV, wNotV, wIf, wNil, wCons, wTup, wLst, wCall, wCB, wIsT, wiR1, wiR2, wiSq, wiEn, wiZip, gN, gT1, gT2, gT3, gT4, gT5, gT6, gT7, wYes, gAdd, DV.gSub, gMul, gMod, gDiv, gPow, gLt, gLe, gGt, gGe, gCmp, gEq, gNe, gIs, gIsN, isNon, gIn, gNotIn, gIx, gSlc, wSlc, wNoP, wPart, gLen, gAbs, gInt, gMin2, gMax2, gAll, gAny, gSum, gTuple, wNeg, wRev, itemsOf, D.isTy, D.isHand, Sl.toD, big_0, big_1, big_2, big_3, big_4, big_5, big_6, big_7, big_8, big_9, big_10, big_11, big_12, draw_iff, own_ex, val_ex, wipeE, restE, Sl.keep, Option.getD_some, get_z, get_s, set_z, set_s, List.length_cons, List.length_nil, atI_0, atI_1, atI_2, atI_3, atI_4, ixN_5_0, ixN_5_1, ixN_5_2, ixN_5_3, ixN_5_4, D.bl.injEq, D.int.injEq, D.lst.injEq, D.tup.injEq, D.str.injEq, Sl.own.injEq, Sl.val.injEq, Option.some.injEq, exists_eq_left', exists_eq_left, exists_eq', exists_eq, or_true, true_or, or_false, false_or, CMul, CPow, natAbs_10, natAbs_2, Int.cast_ofNat_Int, Nat.reducePow, exists_and_left, exists_const, and_assoc, true_and, and_true, and_self, false_and, and_false, if_true, if_false, ite_true, ite_false, reduceCtorEq, decide_true, decide_false, decide_eq_true_eq, decide_eq_false_iff_not, Bool.not_true, Bool.not_false, Bool.false_eq_true, List.replicate_zero, List.replicate_succ, List.map_cons, List.map_nil, List.nil_append, List.cons_append, Nat.reduceSub, Nat.reduceAdd, Nat.reduceLeDiff, Nat.reduceLT, Int.reduceLT, Int.reduceLE, Int.reduceAdd, Int.reduceSub, Int.reduceMul, Int.reduceNeg, Int.reduceMod, Int.reduceDiv, Int.reducePow, Int.reduceToNat, okD_int, okD_bl, okD_lst, okD_tup, okD_non, okL_nil, okL_cons, okD_str, okL_int, eqD_int, eqD_bl, eqD_str, eqD_tup, eqD_lst, eqL_cons, eqL_nil, eqL_cn, eqL_nc, eqL_int, Bool.and_eq_true, Bool.or_eq_true, Bool.not_eq_true', Bool.and_false, Bool.false_and, Bool.or_false, Bool.false_or, Bool.or_true, Bool.true_or, Bool.and_true, Bool.true_and, Bool.and_self])
  refine ⟨by omega, ?_⟩
  unfold B__law_is_right_19
  have e0 := (take_drop3 ws a (a + w) (by omega) (by omega)).symm
  by_cases hb : (b : Int) ^ w ≤ L
  · have key : (num b 0 ws % q = num b 0 (ws.take a ++ vs ++ ws.drop (a + w)) % q) ↔ ws = ws.take a ++ vs ++ ws.drop (a + w) := by
      have lm : ((ws.drop a).take (a + w - a)).length = w := by rw [List.length_take, List.length_drop]; omega
      have hm : ∀ x ∈ (ws.drop a).take (a + w - a), 0 ≤ x ∧ x < (b : Int) := fun x hx => hws x (List.mem_of_mem_drop (List.mem_of_mem_take hx))
      have lv : vs.length = w := by omega
      constructor
      · intro h0
        have h1 := (mid_law e0 (ns := vs) (by rw [lm, lv])).mp h0.symm
        have b1 := num_lt (show 1 ≤ (b : Int) by omega) hm
        have b2 := num_lt (show 1 ≤ (b : Int) by omega) hvs
        rw [lm] at b1
        rw [lv] at b2
        have h2 := part_zero c (by omega) (by omega) h1
        have h3 := num_inj (show 1 ≤ (b : Int) by omega) hvs hm (by rw [lv, lm]) (by omega)
        rw [h3]
        exact e0
      · intro h0
        rw [← h0]
    have e2 : decide (num b 0 ws % q = num b 0 (ws.take a ++ vs ++ ws.drop (a + w)) % q) = decide (ws = ws.take a ++ vs ++ ws.drop (a + w)) := decide_eq_decide.mpr key
    have hk2 : k = true := by rw [hk, decide_eq_true hb]
    simp only [wSeq, wAsg, wOwn, wF, wLc, wSkip, wBrk, wCnt, wRet, wRetF, wRetN, wDrop, wIfS, wPar, wFor, wWh, wV, wApp, wExt, wSetIx, wAug, wVal, wLook, wC, wOp, wTst, wChain, wAnd, wOr, wNot, wAndV, wOrV, wNotV, wIf, wNil, wCons, wTup, wLst, wCall, wCB, wIsT, wiR1, wiR2, wiSq, wiEn, wiZip, gN, gT1, gT2, gT3, gT4, gT5, gT6, gT7, wYes, gAdd, DV.gSub, gMul, gMod, gDiv, gPow, gLt, gLe, gGt, gGe, gCmp, gEq, gNe, gIs, gIsN, isNon, gIn, gNotIn, gIx, gSlc, wSlc, wNoP, wPart, gLen, gAbs, gInt, gMin2, gMax2, gAll, gAny, gSum, gTuple, wNeg, wRev, itemsOf, D.isTy, D.isHand, Sl.toD, big_0, big_1, big_2, big_3, big_4, big_5, big_6, big_7, big_8, big_9, big_10, big_11, big_12, draw_iff, own_ex, val_ex, wipeE, restE, Sl.keep, Option.getD_some, get_z, get_s, set_z, set_s, List.length_cons, List.length_nil, atI_0, atI_1, atI_2, atI_3, atI_4, ixN_5_0, ixN_5_1, ixN_5_2, ixN_5_3, ixN_5_4, D.bl.injEq, D.int.injEq, D.lst.injEq, D.tup.injEq, D.str.injEq, Sl.own.injEq, Sl.val.injEq, Option.some.injEq, exists_eq_left', exists_eq_left, exists_eq', exists_eq, or_true, true_or, or_false, false_or, CMul, CPow, natAbs_10, natAbs_2, Int.cast_ofNat_Int, Nat.reducePow, exists_and_left, exists_const, and_assoc, true_and, and_true, and_self, false_and, and_false, if_true, if_false, ite_true, ite_false, reduceCtorEq, decide_true, decide_false, decide_eq_true_eq, decide_eq_false_iff_not, Bool.not_true, Bool.not_false, Bool.false_eq_true, List.replicate_zero, List.replicate_succ, List.map_cons, List.map_nil, List.nil_append, List.cons_append, Nat.reduceSub, Nat.reduceAdd, Nat.reduceLeDiff, Nat.reduceLT, Int.reduceLT, Int.reduceLE, Int.reduceAdd, Int.reduceSub, Int.reduceMul, Int.reduceNeg, Int.reduceMod, Int.reduceDiv, Int.reducePow, Int.reduceToNat, okD_int, okD_bl, okD_lst, okD_tup, okD_non, okL_nil, okL_cons, okD_str, okL_int, eqD_int, eqD_bl, eqD_str, eqD_tup, eqD_lst, eqL_cons, eqL_nil, eqL_cn, eqL_nc, eqL_int, Bool.and_eq_true, Bool.or_eq_true, Bool.not_eq_true', Bool.and_false, Bool.false_and, Bool.or_false, Bool.false_or, Bool.or_true, Bool.true_or, Bool.and_true, Bool.true_and, Bool.and_self, e2, hk2]
    exact l21 f hw c (by rw [← hk, hk2]) h
  · have hk2 : k = false := by rw [hk, decide_eq_false hb]
    simp only [wSeq, wAsg, wOwn, wF, wLc, wSkip, wBrk, wCnt, wRet, wRetF, wRetN, wDrop, wIfS, wPar, wFor, wWh, wV, wApp, wExt, wSetIx, wAug, wVal, wLook, wC, wOp, wTst, wChain, wAnd, wOr, wNot, wAndV, wOrV, wNotV, wIf, wNil, wCons, wTup, wLst, wCall, wCB, wIsT, wiR1, wiR2, wiSq, wiEn, wiZip, gN, gT1, gT2, gT3, gT4, gT5, gT6, gT7, wYes, gAdd, DV.gSub, gMul, gMod, gDiv, gPow, gLt, gLe, gGt, gGe, gCmp, gEq, gNe, gIs, gIsN, isNon, gIn, gNotIn, gIx, gSlc, wSlc, wNoP, wPart, gLen, gAbs, gInt, gMin2, gMax2, gAll, gAny, gSum, gTuple, wNeg, wRev, itemsOf, D.isTy, D.isHand, Sl.toD, big_0, big_1, big_2, big_3, big_4, big_5, big_6, big_7, big_8, big_9, big_10, big_11, big_12, draw_iff, own_ex, val_ex, wipeE, restE, Sl.keep, Option.getD_some, get_z, get_s, set_z, set_s, List.length_cons, List.length_nil, atI_0, atI_1, atI_2, atI_3, atI_4, ixN_5_0, ixN_5_1, ixN_5_2, ixN_5_3, ixN_5_4, D.bl.injEq, D.int.injEq, D.lst.injEq, D.tup.injEq, D.str.injEq, Sl.own.injEq, Sl.val.injEq, Option.some.injEq, exists_eq_left', exists_eq_left, exists_eq', exists_eq, or_true, true_or, or_false, false_or, CMul, CPow, natAbs_10, natAbs_2, Int.cast_ofNat_Int, Nat.reducePow, exists_and_left, exists_const, and_assoc, true_and, and_true, and_self, false_and, and_false, if_true, if_false, ite_true, ite_false, reduceCtorEq, decide_true, decide_false, decide_eq_true_eq, decide_eq_false_iff_not, Bool.not_true, Bool.not_false, Bool.false_eq_true, List.replicate_zero, List.replicate_succ, List.map_cons, List.map_nil, List.nil_append, List.cons_append, Nat.reduceSub, Nat.reduceAdd, Nat.reduceLeDiff, Nat.reduceLT, Int.reduceLT, Int.reduceLE, Int.reduceAdd, Int.reduceSub, Int.reduceMul, Int.reduceNeg, Int.reduceMod, Int.reduceDiv, Int.reducePow, Int.reduceToNat, okD_int, okD_bl, okD_lst, okD_tup, okD_non, okL_nil, okL_cons, okD_str, okL_int, eqD_int, eqD_bl, eqD_str, eqD_tup, eqD_lst, eqL_cons, eqL_nil, eqL_cn, eqL_nc, eqL_int, Bool.and_eq_true, Bool.or_eq_true, Bool.not_eq_true', Bool.and_false, Bool.false_and, Bool.or_false, Bool.false_or, Bool.or_true, Bool.true_or, Bool.and_true, Bool.true_and, Bool.and_self, hk2]
    exact l21 f hw c (by rw [← hk, hk2]) h
end
end Law

set_option Elab.async false
set_option linter.all false
set_option maxRecDepth 100000
namespace Law
open PySem PySem.Spec PyProof.Rows L2 DV
theorem isOk_mono : ∀ {n : Nat} {x : D}, isOk n x → isOk (n + 1) x
  | 0, _, h => h.elim
  | n + 1, .non, _ => trivial
  | n + 1, .bl _, _ => trivial
  | n + 1, .int _, _ => trivial
  | n + 1, .str _, h => h
  | n + 1, .tup _, h => ⟨h.1, fun x hx => isOk_mono (h.2 x hx)⟩
  | n + 1, .lst _, h => ⟨h.1, fun x hx => isOk_mono (h.2 x hx)⟩
  | n + 1, .dct _, h => h.elim
  | n + 1, .obj _ _, h => h.elim
  | n + 1, .frz _, h => h.elim
  | n + 1, .hand, h => h.elim

theorem ne_sps : ¬ (("seen" : Str) = "places") := by decide
section
variable {Q : D → Prop} {E : Er → Prop}
theorem l10 {b q : Nat} (f : FitOk b q) {n : Int} {s3 s4 s5 s6 s7 s8 s9 s10 s11 s12 s13 s14 : Sl} {P : Post} (h : ∀ e, P.rt (.bl true) e) :
    B__law_is_right_10 [.val .hand, .val (.int b), .val (.int q), s3, s4, s5, s6, s7, s8, s9, s10, s11, s12, s13, s14, .no] P := by
  have f' := f
  obtain ⟨g1, g2, g3, g4, g5⟩ := f'
  unfold B__law_is_right_10
  (try simp only [wSeq, wAsg, wOwn, wF, wLc, wSkip, wBrk, wCnt, wRet, wRetF, wRetN, wDrop, wIfS, wPar, wFor, wWh, wV, wApp, wExt, wSetIx, wAug, wVal, wLook, wC, wOp, wTst, wChain, wAnd, wOr, wNot, wAndV, wOrV, wNotV, wIf, wNil, wCons, wTup, wLst, wCall, wCB, wIsT, wiR1, wiR2, wiSq, wiEn, wiZip, gN, gT1, gT2, gT3, gT4, gT5, gT6, gT7, wYes, gAdd, DV.gSub, gMul, gMod, gDiv, gPow, gLt, gLe, gGt, gGe, gCmp, gEq, gNe, gIs, gIsN, isNon, gIn, gNotIn, gIx, gSlc, wSlc, wNoP, wPart, gLen, gAbs, gInt, gMin2, gMax2, gAll, gAny, gSum, gTuple, wNeg, wRev, itemsOf, D.isTy, D.isHand, Sl.toD, big_0, big_1, big_2, big_3, big_4, big_5, big_6, big_7, big_8, big_9, big_10, big_11, big_12, draw_iff, own_ex, val_ex, wipeE, restE, Sl.keep, Option.getD_some, get_z, get_s, set_z, set_s, List.length_cons, List.length_nil, atI_0, atI_1, atI_2, atI_3, atI_4, ixN_5_0, ixN_5_1, ixN_5_2, ixN_5_3, ixN_5_4, D.bl.injEq, D.int.injEq, D.lst.injEq, D.tup.injEq, D.str.injEq, Sl.own.injEq, Sl.val.injEq, Option.some.injEq, exists_eq_left', exists_eq_left, exists_eq', exists_eq, or_true, true_or, or_false, false_or, CMul, CPow, natAbs_10, natAbs_2, Int.cast_ofNat_Int, Nat.reducePow, exists_and_left, exists_const, and_assoc, true_and, and_true, and_self, false_and, and_false, if_true, if_false, ite_true, ite_false, reduceCtorEq, decide_true, decide_false, decide_eq_true_eq, decide_eq_false_iff_not, Bool.not_true, Bool.not_false, Bool.false_eq_true, List.replicate_zero, List.replicate_succ, List.map_cons, List.map_nil, List.nil_append, List.cons_append, Nat.reduceSub, Nat.reduceAdd, Nat.reduceLeDiff, Nat.reduceLT, Int.reduceLT, Int.reduceLE, Int.reduceAdd, Int.reduceSub, Int.reduceMul, Int.reduceNeg, Int.reduceMod, Int.reduceDiv, Int.reducePow, Int.reduceToNat, okD_int, okD_bl, okD_lst, okD_tup, okD_non, okL_nil, okL_cons, okD_str, okL_int, eqD_int, eqD_bl, eqD_str, eqD_tup, eqD_lst, eqL_cons, eqL_nil, eqL_cn, eqL_nc, eqL_int, Bool.and_eq_true, Bool.or_eq_true, Bool.not_eq_true', Bool.and_false, Bool.false_and, Bool.or_false, Bool.false_or, Bool.or_true, Bool.true_or, Bool.and_true, Bool.true_and, Bool.and_self])
  intro d d1 d2
  obtain ⟨w, hw⟩ := Int.eq_ofNat_of_zero_le (show 0 ≤ 1 + d by omega)
  rw [hw]
  unfold B__law_is_right_11
  (try simp only [wSeq, wAsg, wOwn, wF, wLc, wSkip, wBrk, wCnt, wRet, wRetF, wRetN, wDrop, wIfS, wPar, wFor, wWh, wV, wApp, wExt, wSetIx, wAug, wVal, wLook, wC, wOp, wTst, wChain, wAnd, wOr, wNot, wAndV, wOrV, wNotV, wIf, wNil, wCons, wTup, wLst, wCall, wCB, wIsT, wiR1, wiR2, wiSq, wiEn, wiZip, gN, gT1, gT2, gT3, gT4, gT5, gT6, gT7, wYes, gAdd, DV.gSub, gMul, gMod, gDiv, gPow, gLt, gLe, gGt, gGe, gCmp, gEq, gNe, gIs, gIsN, isNon, gIn, gNotIn, gIx, gSlc, wSlc, wNoP, wPart, gLen, gAbs, gInt, gMin2, gMax2, gAll, gAny, gSum, gTuple, wNeg, wRev, itemsOf, D.isTy, D.isHand, Sl.toD, big_0, big_1, big_2, big_3, big_4, big_5, big_6, big_7, big_8, big_9, big_10, big_11, big_12, draw_iff, own_ex, val_ex, wipeE, restE, Sl.keep, Option.getD_some, get_z, get_s, set_z, set_s, List.length_cons, List.length_nil, atI_0, atI_1, atI_2, atI_3, atI_4, ixN_5_0, ixN_5_1, ixN_5_2, ixN_5_3, ixN_5_4, D.bl.injEq, D.int.injEq, D.lst.injEq, D.tup.injEq, D.str.injEq, Sl.own.injEq, Sl.val.injEq, Option.some.injEq, exists_eq_left', exists_eq_left, exists_eq', exists_eq, or_true, true_or, or_false, false_or, CMul, CPow, natAbs_10, natAbs_2, Int.cast_ofNat_Int, Nat.reducePow, exists_and_left, exists_const, and_assoc, true_and, and_true, and_self, false_and, and_false, if_true, if_false, ite_true, ite_false, reduceCtorEq, decide_true, decide_false, decide_eq_true_eq, decide_eq_false_iff_not, Bool.not_true, Bool.not_false, Bool.false_eq_true, List.replicate_zero, List.replicate_succ, List.map_cons, List.map_nil, List.nil_append, List.cons_append, Nat.reduceSub, Nat.reduceAdd, Nat.reduceLeDiff, Nat.reduceLT, Int.reduceLT, Int.reduceLE, Int.reduceAdd, Int.reduceSub, Int.reduceMul, Int.reduceNeg, Int.reduceMod, Int.reduceDiv, Int.reducePow, Int.reduceToNat, okD_int, okD_bl, okD_lst, okD_tup, okD_non, okL_nil, okL_cons, okD_str, okL_int, eqD_int, eqD_bl, eqD_str, eqD_tup, eqD_lst, eqL_cons, eqL_nil, eqL_cn, eqL_nc, eqL_int, Bool.and_eq_true, Bool.or_eq_true, Bool.not_eq_true', Bool.and_false, Bool.false_and, Bool.or_false, Bool.false_or, Bool.or_true, Bool.true_or, Bool.and_true, Bool.true_and, Bool.and_self])
  refine sp_stretch_seen f (by omega) (by omega) fun L c => ?_
  (try simp only [wSeq, wAsg, wOwn, wF, wLc, wSkip, wBrk, wCnt, wRet, wRetF, wRetN, wDrop, wIfS, wPar, wFor, wWh, wV, wApp, wExt, wSetIx, wAug, wVal, wLook, wC, wOp, wTst, wChain, wAnd, wOr, wNot, wAndV, wOrV, wNotV, wIf, wNil, wCons, wTup, wLst, wCall, wCB, wIsT, wiR1, wiR2, wiSq, wiEn, wiZip, gN, gT1, gT2, gT3, gT4, gT5, gT6, gT7, wYes, gAdd, DV.gSub, gMul, gMod, gDiv, gPow, gLt, gLe, gGt, gGe, gCmp, gEq, gNe, gIs, gIsN, isNon, gIn, gNotIn, gIx, gSlc, wSlc, wNoP, wPart, gLen, gAbs, gInt, gMin2, gMax2, gAll, gAny, gSum, gTuple, wNeg, wRev, itemsOf, D.isTy, D.isHand, Sl.toD, big_0, big_1, big_2, big_3, big_4, big_5, big_6, big_7, big_8, big_9, big_10, big_11, big_12, draw_iff, own_ex, val_ex, wipeE, restE, Sl.keep, Option.getD_some, get_z, get_s, set_z, set_s, List.length_cons, List.length_nil, atI_0, atI_1, atI_2, atI_3, atI_4, ixN_5_0, ixN_5_1, ixN_5_2, ixN_5_3, ixN_5_4, D.bl.injEq, D.int.injEq, D.lst.injEq, D.tup.injEq, D.str.injEq, Sl.own.injEq, Sl.val.injEq, Option.some.injEq, exists_eq_left', exists_eq_left, exists_eq', exists_eq, or_true, true_or, or_false, false_or, CMul, CPow, natAbs_10, natAbs_2, Int.cast_ofNat_Int, Nat.reducePow, exists_and_left, exists_const, and_assoc, true_and, and_true, and_self, false_and, and_false, if_true, if_false, ite_true, ite_false, reduceCtorEq, decide_true, decide_false, decide_eq_true_eq, decide_eq_false_iff_not, Bool.not_true, Bool.not_false, Bool.false_eq_true, List.replicate_zero, List.replicate_succ, List.map_cons, List.map_nil, List.nil_append, List.cons_append, Nat.reduceSub, Nat.reduceAdd, Nat.reduceLeDiff, Nat.reduceLT, Int.reduceLT, Int.reduceLE, Int.reduceAdd, Int.reduceSub, Int.reduceMul, Int.reduceNeg, Int.reduceMod, Int.reduceDiv, Int.reducePow, Int.reduceToNat, okD_int, okD_bl, okD_lst, okD_tup, okD_non, okL_nil, okL_cons, okD_str, okL_int, eqD_int, eqD_bl, eqD_str, eqD_tup, eqD_lst, eqL_cons, eqL_nil, eqL_cn, eqL_nc, eqL_int, Bool.and_eq_true, Bool.or_eq_true, Bool.not_eq_true', Bool.and_false, Bool.false_and, Bool.or_false, Bool.false_or, Bool.or_true, Bool.true_or, Bool.and_true, Bool.true_and, Bool.and_self])
  unfold B__law_is_right_12
  (try simp only [wSeq, wAsg, wOwn, wF, wLc, wSkip, wBrk, wCnt, wRet, wRetF, wRetN, wDrop, wIfS, wPar, wFor, wWh, wV, wApp, wExt, wSetIx, wAug, wVal, wLook, wC, wOp, wTst, wChain, wAnd, wOr, wNot, wAndV, wOrV, wNotV, wIf, wNil, wCons, wTup, wLst, wCall, wCB, wIsT, wiR1, wiR2, wiSq, wiEn, wiZip, gN, gT1, gT2, gT3, gT4, gT5, gT6, gT7, wYes, gAdd, DV.gSub, gMul, gMod, gDiv, gPow, gLt, gLe, gGt, gGe, gCmp, gEq, gNe, gIs, gIsN, isNon, gIn, gNotIn, gIx, gSlc, wSlc, wNoP, wPart, gLen, gAbs, gInt, gMin2, gMax2, gAll, gAny, gSum, gTuple, wNeg, wRev, itemsOf, D.isTy, D.isHand, Sl.toD, big_0, big_1, big_2, big_3, big_4, big_5, big_6, big_7, big_8, big_9, big_10, big_11, big_12, draw_iff, own_ex, val_ex, wipeE, restE, Sl.keep, Option.getD_some, get_z, get_s, set_z, set_s, List.length_cons, List.length_nil, atI_0, atI_1, atI_2, atI_3, atI_4, ixN_5_0, ixN_5_1, ixN_5_2, ixN_5_3, ixN_5_4, D.bl.injEq, D.int.injEq, D.lst.injEq, D.tup.injEq, D.str.injEq, Sl.own.injEq, Sl.val.injEq, Option.some.injEq, exists_eq_left', exists_eq_left, exists_eq', exists_eq, or_true, true_or, or_false, false_or, CMul, CPow, natAbs_10, natAbs_2, Int.cast_ofNat_Int, Nat.reducePow, exists_and_left, exists_const, and_assoc, true_and, and_true, and_self, false_and, and_false, if_true, if_false, ite_true, ite_false, reduceCtorEq, decide_true, decide_false, decide_eq_true_eq, decide_eq_false_iff_not, Bool.not_true, Bool.not_false, Bool.false_eq_true, List.replicate_zero, List.replicate_succ, List.map_cons, List.map_nil, List.nil_append, List.cons_append, Nat.reduceSub, Nat.reduceAdd, Nat.reduceLeDiff, Nat.reduceLT, Int.reduceLT, Int.reduceLE, Int.reduceAdd, Int.reduceSub, Int.reduceMul, Int.reduceNeg, Int.reduceMod, Int.reduceDiv, Int.reducePow, Int.reduceToNat, okD_int, okD_bl, okD_lst, okD_tup, okD_non, okL_nil, okL_cons, okD_str, okL_int, eqD_int, eqD_bl, eqD_str, eqD_tup, eqD_lst, eqL_cons, eqL_nil, eqL_cn, eqL_nc, eqL_int, Bool.and_eq_true, Bool.or_eq_true, Bool.not_eq_true', Bool.and_false, Bool.false_and, Bool.or_false, Bool.false_or, Bool.or_true, Bool.true_or, Bool.and_true, Bool.true_and, Bool.and_self])
  refine sp_law_own_part (by omega) (by omega) (by omega) (by omega) fun L2 c2 => ?_
  obtain rfl := c.eq c2
  (try simp only [wSeq, wAsg, wOwn, wF, wLc, wSkip, wBrk, wCnt, wRet, wRetF, wRetN, wDrop, wIfS, wPar, wFor, wWh, wV, wApp, wExt, wSetIx, wAug, wVal, wLook, wC, wOp, wTst, wChain, wAnd, wOr, wNot, wAndV, wOrV, wNotV, wIf, wNil, wCons, wTup, wLst, wCall, wCB, wIsT, wiR1, wiR2, wiSq, wiEn, wiZip, gN, gT1, gT2, gT3, gT4, gT5, gT6, gT7, wYes, gAdd, DV.gSub, gMul, gMod, gDiv, gPow, gLt, gLe, gGt, gGe, gCmp, gEq, gNe, gIs, gIsN, isNon, gIn, gNotIn, gIx, gSlc, wSlc, wNoP, wPart, gLen, gAbs, gInt, gMin2, gMax2, gAll, gAny, gSum, gTuple, wNeg, wRev, itemsOf, D.isTy, D.isHand, Sl.toD, big_0, big_1, big_2, big_3, big_4, big_5, big_6, big_7, big_8, big_9, big_10, big_11, big_12, draw_iff, own_ex, val_ex, wipeE, restE, Sl.keep, Option.getD_some, get_z, get_s, set_z, set_s, List.length_cons, List.length_nil, atI_0, atI_1, atI_2, atI_3, atI_4, ixN_5_0, ixN_5_1, ixN_5_2, ixN_5_3, ixN_5_4, D.bl.injEq, D.int.injEq, D.lst.injEq, D.tup.injEq, D.str.injEq, Sl.own.injEq, Sl.val.injEq, Option.some.injEq, exists_eq_left', exists_eq_left, exists_eq', exists_eq, or_true, true_or, or_false, false_or, CMul, CPow, natAbs_10, natAbs_2, Int.cast_ofNat_Int, Nat.reducePow, exists_and_left, exists_const, and_assoc, true_and, and_true, and_self, false_and, and_false, if_true, if_false, ite_true, ite_false, reduceCtorEq, decide_true, decide_false, decide_eq_true_eq, decide_eq_false_iff_not, Bool.not_true, Bool.not_false, Bool.false_eq_true, List.replicate_zero, List.replicate_succ, List.map_cons, List.map_nil, List.nil_append, List.cons_append, Nat.reduceSub, Nat.reduceAdd, Nat.reduceLeDiff, Nat.reduceLT, Int.reduceLT, Int.reduceLE, Int.reduceAdd, Int.reduceSub, Int.reduceMul, Int.reduceNeg, Int.reduceMod, Int.reduceDiv, Int.reducePow, Int.reduceToNat, okD_int, okD_bl, okD_lst, okD_tup, okD_non, okL_nil, okL_cons, okD_str, okL_int, eqD_int, eqD_bl, eqD_str, eqD_tup, eqD_lst, eqL_cons, eqL_nil, eqL_cn, eqL_nc, eqL_int, Bool.and_eq_true, Bool.or_eq_true, Bool.not_eq_true', Bool.and_false, Bool.false_and, Bool.or_false, Bool.false_or, Bool.or_true, Bool.true_or, Bool.and_true, Bool.true_and, Bool.and_self])
  refine sp_law_power (by omega) (by omega) ?_
  simp only [wSeq, wAsg, wOwn, wF, wLc, wSkip, wBrk, wCnt, wRet, wRetF, wRetN, wDrop, wIfS, wPar, wFor, wWh, wV, wApp, wExt, wSetIx, wAug, wVal, wLook, wC, wOp, wTst, wChain, wAnd, wOr, wNot, wAndV, wOrV, wNotV, wIf, wNil, wCons, wTup, wLst, wCall, wCB, wIsT, wiR1, wiR2, wiSq, wiEn, wiZip, gN, gT1, gT2, gT3, gT4, gT5, gT6, gT7, wYes, gAdd, DV.gSub, gMul, gMod, gDiv, gPow, gLt, gLe, gGt, gGe, gCmp, gEq, gNe, gIs, gIsN, isNon, gIn, gNotIn, gIx, gSlc, wSlc, wNoP, wPart, gLen, gAbs, gInt, gMin2, gMax2, gAll, gAny, gSum, gTuple, wNeg, wRev, itemsOf, D.isTy, D.isHand, Sl.toD, big_0, big_1, big_2, big_3, big_4, big_5, big_6, big_7, big_8, big_9, big_10, big_11, big_12, draw_iff, own_ex, val_ex, wipeE, restE, Sl.keep, Option.getD_some, get_z, get_s, set_z, set_s, List.length_cons, List.length_nil, atI_0, atI_1, atI_2, atI_3, atI_4, ixN_5_0, ixN_5_1, ixN_5_2, ixN_5_3, ixN_5_4, D.bl.injEq, D.int.injEq, D.lst.injEq, D.tup.injEq, D.str.injEq, Sl.own.injEq, Sl.val.injEq, Option.some.injEq, exists_eq_left', exists_eq_left, exists_eq', exists_eq, or_true, true_or, or_false, false_or, CMul, CPow, natAbs_10, natAbs_2, Int.cast_ofNat_Int, Nat.reducePow, exists_and_left, exists_const, and_assoc, true_and, and_true, and_self, false_and, and_false, if_true, if_false, ite_true, ite_false, reduceCtorEq, decide_true, decide_false, decide_eq_true_eq, decide_eq_false_iff_not, Bool.not_true, Bool.not_false, Bool.false_eq_true, List.replicate_zero, List.replicate_succ, List.map_cons, List.map_nil, List.nil_append, List.cons_append, Nat.reduceSub, Nat.reduceAdd, Nat.reduceLeDiff, Nat.reduceLT, Int.reduceLT, Int.reduceLE, Int.reduceAdd, Int.reduceSub, Int.reduceMul, Int.reduceNeg, Int.reduceMod, Int.reduceDiv, Int.reducePow, Int.reduceToNat, okD_int, okD_bl, okD_lst, okD_tup, okD_non, okL_nil, okL_cons, okD_str, okL_int, eqD_int, eqD_bl, eqD_str, eqD_tup, eqD_lst, eqL_cons, eqL_nil, eqL_cn, eqL_nc, eqL_int, Bool.and_eq_true, Bool.or_eq_true, Bool.not_eq_true', Bool.and_false, Bool.false_and, Bool.or_false, Bool.false_or, Bool.or_true, Bool.true_or, Bool.and_true, Bool.true_and, Bool.and_self, Int.toNat_natCast]
  refine sp_law_is (x := .bl (decide ((b : Int) ^ w ≤ L))) trivial ?_
  (try simp only [wSeq, wAsg, wOwn, wF, wLc, wSkip, wBrk, wCnt, wRet, wRetF, wRetN, wDrop, wIfS, wPar, wFor, wWh, wV, wApp, wExt, wSetIx, wAug, wVal, wLook, wC, wOp, wTst, wChain, wAnd, wOr, wNot, wAndV, wOrV, wNotV, wIf, wNil, wCons, wTup, wLst, wCall, wCB, wIsT, wiR1, wiR2, wiSq, wiEn, wiZip, gN, gT1, gT2, gT3, gT4, gT5, gT6, gT7, wYes, gAdd, DV.gSub, gMul, gMod, gDiv, gPow, gLt, gLe, gGt, gGe, gCmp, gEq, gNe, gIs, gIsN, isNon, gIn, gNotIn, gIx, gSlc, wSlc, wNoP, wPart, gLen, gAbs, gInt, gMin2, gMax2, gAll, gAny, gSum, gTuple, wNeg, wRev, itemsOf, D.isTy, D.isHand, Sl.toD, big_0, big_1, big_2, big_3, big_4, big_5, big_6, big_7, big_8, big_9, big_10, big_11, big_12, draw_iff, own_ex, val_ex, wipeE, restE, Sl.keep, Option.getD_some, get_z, get_s, set_z, set_s, List.length_cons, List.length_nil, atI_0, atI_1, atI_2, atI_3, atI_4, ixN_5_0, ixN_5_1, ixN_5_2, ixN_5_3, ixN_5_4, D.bl.injEq, D.int.injEq, D.lst.injEq, D.tup.injEq, D.str.injEq, Sl.own.injEq, Sl.val.injEq, Option.some.injEq, exists_eq_left', exists_eq_left, exists_eq', exists_eq, or_true, true_or, or_false, false_or, CMul, CPow, natAbs_10, natAbs_2, Int.cast_ofNat_Int, Nat.reducePow, exists_and_left, exists_const, and_assoc, true_and, and_true, and_self, false_and, and_false, if_true, if_false, ite_true, ite_false, reduceCtorEq, decide_true, decide_false, decide_eq_true_eq, decide_eq_false_iff_not, Bool.not_true, Bool.not_false, Bool.false_eq_true, List.replicate_zero, List.replicate_succ, List.map_cons, List.map_nil, List.nil_append, List.cons_append, Nat.reduceSub, Nat.reduceAdd, Nat.reduceLeDiff, Nat.reduceLT, Int.reduceLT, Int.reduceLE, Int.reduceAdd, Int.reduceSub, Int.reduceMul, Int.reduceNeg, Int.reduceMod, Int.reduceDiv, Int.reducePow, Int.reduceToNat, okD_int, okD_bl, okD_lst, okD_tup, okD_non, okL_nil, okL_cons, okD_str, okL_int, eqD_int, eqD_bl, eqD_str, eqD_tup, eqD_lst, eqL_cons, eqL_nil, eqL_cn, eqL_nc, eqL_int, Bool.and_eq_true, Bool.or_eq_true, Bool.not_eq_true', Bool.and_false, Bool.false_and, Bool.or_false, Bool.false_or, Bool.or_true, Bool.true_or, Bool.and_true, Bool.true_and, Bool.and_self])
  exact l14 f (by omega) (by omega) c rfl h
theorem l6 {b q : Nat} (f : FitOk b q) {n : Int} (n1 : 1 ≤ n) (n2 : n ≤ 24) {s5 s6 s7 s8 s9 s10 s11 s12 s13 s14 : Sl} {P : Post} (h : ∀ e, P.rt (.bl true) e) :
    B__law_is_right_6 [.val .hand, .val (.int b), .val (.int q), .val (.int n), .val (two b q n), s5, s6, s7, s8, s9, s10, s11, s12, s13, s14, .no] P := by
  have f' := f
  obtain ⟨g1, g2, g3, g4, g5⟩ := f'
  unfold B__law_is_right_6
  rcases two_cases (b : Int) q n with e | ⟨p, r, a, d, p1, p2, p3, hc, a1, a2, d1, d2, e⟩
  · simp only [wSeq, wAsg, wOwn, wF, wLc, wSkip, wBrk, wCnt, wRet, wRetF, wRetN, wDrop, wIfS, wPar, wFor, wWh, wV, wApp, wExt, wSetIx, wAug, wVal, wLook, wC, wOp, wTst, wChain, wAnd, wOr, wNot, wAndV, wOrV, wNotV, wIf, wNil, wCons, wTup, wLst, wCall, wCB, wIsT, wiR1, wiR2, wiSq, wiEn, wiZip, gN, gT1, gT2, gT3, gT4, gT5, gT6, gT7, wYes, gAdd, DV.gSub, gMul, gMod, gDiv, gPow, gLt, gLe, gGt, gGe, gCmp, gEq, gNe, gIs, gIsN, isNon, gIn, gNotIn, gIx, gSlc, wSlc, wNoP, wPart, gLen, gAbs, gInt, gMin2, gMax2, gAll, gAny, gSum, gTuple, wNeg, wRev, itemsOf, D.isTy, D.isHand, Sl.toD, big_0, big_1, big_2, big_3, big_4, big_5, big_6, big_7, big_8, big_9, big_10, big_11, big_12, draw_iff, own_ex, val_ex, wipeE, restE, Sl.keep, Option.getD_some, get_z, get_s, set_z, set_s, List.length_cons, List.length_nil, atI_0, atI_1, atI_2, atI_3, atI_4, ixN_5_0, ixN_5_1, ixN_5_2, ixN_5_3, ixN_5_4, D.bl.injEq, D.int.injEq, D.lst.injEq, D.tup.injEq, D.str.injEq, Sl.own.injEq, Sl.val.injEq, Option.some.injEq, exists_eq_left', exists_eq_left, exists_eq', exists_eq, or_true, true_or, or_false, false_or, CMul, CPow, natAbs_10, natAbs_2, Int.cast_ofNat_Int, Nat.reducePow, exists_and_left, exists_const, and_assoc, true_and, and_true, and_self, false_and, and_false, if_true, if_false, ite_true, ite_false, reduceCtorEq, decide_true, decide_false, decide_eq_true_eq, decide_eq_false_iff_not, Bool.not_true, Bool.not_false, Bool.false_eq_true, List.replicate_zero, List.replicate_succ, List.map_cons, List.map_nil, List.nil_append, List.cons_append, Nat.reduceSub, Nat.reduceAdd, Nat.reduceLeDiff, Nat.reduceLT, Int.reduceLT, Int.reduceLE, Int.reduceAdd, Int.reduceSub, Int.reduceMul, Int.reduceNeg, Int.reduceMod, Int.reduceDiv, Int.reducePow, Int.reduceToNat, okD_int, okD_bl, okD_lst, okD_tup, okD_non, okL_nil, okL_cons, okD_str, okL_int, eqD_int, eqD_bl, eqD_str, eqD_tup, eqD_lst, eqL_cons, eqL_nil, eqL_cn, eqL_nc, eqL_int, Bool.and_eq_true, Bool.or_eq_true, Bool.not_eq_true', Bool.and_false, Bool.false_and, Bool.or_false, Bool.false_or, Bool.or_true, Bool.true_or, Bool.and_true, Bool.true_and, Bool.and_self, e, ok_s, ok_ps, ne_sps]
    exact l10 (n := n) f h
  · simp only [wSeq, wAsg, wOwn, wF, wLc, wSkip, wBrk, wCnt, wRet, wRetF, wRetN, wDrop, wIfS, wPar, wFor, wWh, wV, wApp, wExt, wSetIx, wAug, wVal, wLook, wC, wOp, wTst, wChain, wAnd, wOr, wNot, wAndV, wOrV, wNotV, wIf, wNil, wCons, wTup, wLst, wCall, wCB, wIsT, wiR1, wiR2, wiSq, wiEn, wiZip, gN, gT1, gT2, gT3, gT4, gT5, gT6, gT7, wYes, gAdd, DV.gSub, gMul, gMod, gDiv, gPow, gLt, gLe, gGt, gGe, gCmp, gEq, gNe, gIs, gIsN, isNon, gIn, gNotIn, gIx, gSlc, wSlc, wNoP, wPart, gLen, gAbs, gInt, gMin2, gMax2, gAll, gAny, gSum, gTuple, wNeg, wRev, itemsOf, D.isTy, D.isHand, Sl.toD, big_0, big_1, big_2, big_3, big_4, big_5, big_6, big_7, big_8, big_9, big_10, big_11, big_12, draw_iff, own_ex, val_ex, wipeE, restE, Sl.keep, Option.getD_some, get_z, get_s, set_z, set_s, List.length_cons, List.length_nil, atI_0, atI_1, atI_2, atI_3, atI_4, ixN_5_0, ixN_5_1, ixN_5_2, ixN_5_3, ixN_5_4, D.bl.injEq, D.int.injEq, D.lst.injEq, D.tup.injEq, D.str.injEq, Sl.own.injEq, Sl.val.injEq, Option.some.injEq, exists_eq_left', exists_eq_left, exists_eq', exists_eq, or_true, true_or, or_false, false_or, CMul, CPow, natAbs_10, natAbs_2, Int.cast_ofNat_Int, Nat.reducePow, exists_and_left, exists_const, and_assoc, true_and, and_true, and_self, false_and, and_false, if_true, if_false, ite_true, ite_false, reduceCtorEq, decide_true, decide_false, decide_eq_true_eq, decide_eq_false_iff_not, Bool.not_true, Bool.not_false, Bool.false_eq_true, List.replicate_zero, List.replicate_succ, List.map_cons, List.map_nil, List.nil_append, List.cons_append, Nat.reduceSub, Nat.reduceAdd, Nat.reduceLeDiff, Nat.reduceLT, Int.reduceLT, Int.reduceLE, Int.reduceAdd, Int.reduceSub, Int.reduceMul, Int.reduceNeg, Int.reduceMod, Int.reduceDiv, Int.reducePow, Int.reduceToNat, okD_int, okD_bl, okD_lst, okD_tup, okD_non, okL_nil, okL_cons, okD_str, okL_int, eqD_int, eqD_bl, eqD_str, eqD_tup, eqD_lst, eqL_cons, eqL_nil, eqL_cn, eqL_nc, eqL_int, Bool.and_eq_true, Bool.or_eq_true, Bool.not_eq_true', Bool.and_false, Bool.false_and, Bool.or_false, Bool.false_or, Bool.or_true, Bool.true_or, Bool.and_true, Bool.true_and, Bool.and_self, e, ok_s, ok_ps]
    unfold B__law_is_right_7
    have ec : DV.cutD [D.str "places", D.int p, D.int r, D.int a, D.int d] (some 1) none = [D.int p, D.int r, D.int a, D.int d] := cut_from (k := 1) rfl
    simp only [wSeq, wAsg, wOwn, wF, wLc, wSkip, wBrk, wCnt, wRet, wRetF, wRetN, wDrop, wIfS, wPar, wFor, wWh, wV, wApp, wExt, wSetIx, wAug, wVal, wLook, wC, wOp, wTst, wChain, wAnd, wOr, wNot, wAndV, wOrV, wNotV, wIf, wNil, wCons, wTup, wLst, wCall, wCB, wIsT, wiR1, wiR2, wiSq, wiEn, wiZip, gN, gT1, gT2, gT3, gT4, gT5, gT6, gT7, wYes, gAdd, DV.gSub, gMul, gMod, gDiv, gPow, gLt, gLe, gGt, gGe, gCmp, gEq, gNe, gIs, gIsN, isNon, gIn, gNotIn, gIx, gSlc, wSlc, wNoP, wPart, gLen, gAbs, gInt, gMin2, gMax2, gAll, gAny, gSum, gTuple, wNeg, wRev, itemsOf, D.isTy, D.isHand, Sl.toD, big_0, big_1, big_2, big_3, big_4, big_5, big_6, big_7, big_8, big_9, big_10, big_11, big_12, draw_iff, own_ex, val_ex, wipeE, restE, Sl.keep, Option.getD_some, get_z, get_s, set_z, set_s, List.length_cons, List.length_nil, atI_0, atI_1, atI_2, atI_3, atI_4, ixN_5_0, ixN_5_1, ixN_5_2, ixN_5_3, ixN_5_4, D.bl.injEq, D.int.injEq, D.lst.injEq, D.tup.injEq, D.str.injEq, Sl.own.injEq, Sl.val.injEq, Option.some.injEq, exists_eq_left', exists_eq_left, exists_eq', exists_eq, or_true, true_or, or_false, false_or, CMul, CPow, natAbs_10, natAbs_2, Int.cast_ofNat_Int, Nat.reducePow, exists_and_left, exists_const, and_assoc, true_and, and_true, and_self, false_and, and_false, if_true, if_false, ite_true, ite_false, reduceCtorEq, decide_true, decide_false, decide_eq_true_eq, decide_eq_false_iff_not, Bool.not_true, Bool.not_false, Bool.false_eq_true, List.replicate_zero, List.replicate_succ, List.map_cons, List.map_nil, List.nil_append, List.cons_append, Nat.reduceSub, Nat.reduceAdd, Nat.reduceLeDiff, Nat.reduceLT, Int.reduceLT, Int.reduceLE, Int.reduceAdd, Int.reduceSub, Int.reduceMul, Int.reduceNeg, Int.reduceMod, Int.reduceDiv, Int.reducePow, Int.reduceToNat, okD_int, okD_bl, okD_lst, okD_tup, okD_non, okL_nil, okL_cons, okD_str, okL_int, eqD_int, eqD_bl, eqD_str, eqD_tup, eqD_lst, eqL_cons, eqL_nil, eqL_cn, eqL_nc, eqL_int, Bool.and_eq_true, Bool.or_eq_true, Bool.not_eq_true', Bool.and_false, Bool.false_and, Bool.or_false, Bool.false_or, Bool.or_true, Bool.true_or, Bool.and_true, Bool.true_and, Bool.and_self, ec]
    unfold B__law_is_right_8
    (try simp only [wSeq, wAsg, wOwn, wF, wLc, wSkip, wBrk, wCnt, wRet, wRetF, wRetN, wDrop, wIfS, wPar, wFor, wWh, wV, wApp, wExt, wSetIx, wAug, wVal, wLook, wC, wOp, wTst, wChain, wAnd, wOr, wNot, wAndV, wOrV, wNotV, wIf, wNil, wCons, wTup, wLst, wCall, wCB, wIsT, wiR1, wiR2, wiSq, wiEn, wiZip, gN, gT1, gT2, gT3, gT4, gT5, gT6, gT7, wYes, gAdd, DV.gSub, gMul, gMod, gDiv, gPow, gLt, gLe, gGt, gGe, gCmp, gEq, gNe, gIs, gIsN, isNon, gIn, gNotIn, gIx, gSlc, wSlc, wNoP, wPart, gLen, gAbs, gInt, gMin2, gMax2, gAll, gAny, gSum, gTuple, wNeg, wRev, itemsOf, D.isTy, D.isHand, Sl.toD, big_0, big_1, big_2, big_3, big_4, big_5, big_6, big_7, big_8, big_9, big_10, big_11, big_12, draw_iff, own_ex, val_ex, wipeE, restE, Sl.keep, Option.getD_some, get_z, get_s, set_z, set_s, List.length_cons, List.length_nil, atI_0, atI_1, atI_2, atI_3, atI_4, ixN_5_0, ixN_5_1, ixN_5_2, ixN_5_3, ixN_5_4, D.bl.injEq, D.int.injEq, D.lst.injEq, D.tup.injEq, D.str.injEq, Sl.own.injEq, Sl.val.injEq, Option.some.injEq, exists_eq_left', exists_eq_left, exists_eq', exists_eq, or_true, true_or, or_false, false_or, CMul, CPow, natAbs_10, natAbs_2, Int.cast_ofNat_Int, Nat.reducePow, exists_and_left, exists_const, and_assoc, true_and, and_true, and_self, false_and, and_false, if_true, if_false, ite_true, ite_false, reduceCtorEq, decide_true, decide_false, decide_eq_true_eq, decide_eq_false_iff_not, Bool.not_true, Bool.not_false, Bool.false_eq_true, List.replicate_zero, List.replicate_succ, List.map_cons, List.map_nil, List.nil_append, List.cons_append, Nat.reduceSub, Nat.reduceAdd, Nat.reduceLeDiff, Nat.reduceLT, Int.reduceLT, Int.reduceLE, Int.reduceAdd, Int.reduceSub, Int.reduceMul, Int.reduceNeg, Int.reduceMod, Int.reduceDiv, Int.reducePow, Int.reduceToNat, okD_int, okD_bl, okD_lst, okD_tup, okD_non, okL_nil, okL_cons, okD_str, okL_int, eqD_int, eqD_bl, eqD_str, eqD_tup, eqD_lst, eqL_cons, eqL_nil, eqL_cn, eqL_nc, eqL_int, Bool.and_eq_true, Bool.or_eq_true, Bool.not_eq_true', Bool.and_false, Bool.false_and, Bool.or_false, Bool.false_or, Bool.or_true, Bool.true_or, Bool.and_true, Bool.true_and, Bool.and_self])
    refine sp_law_power (by omega) (by omega) ?_
    (try simp only [wSeq, wAsg, wOwn, wF, wLc, wSkip, wBrk, wCnt, wRet, wRetF, wRetN, wDrop, wIfS, wPar, wFor, wWh, wV, wApp, wExt, wSetIx, wAug, wVal, wLook, wC, wOp, wTst, wChain, wAnd, wOr, wNot, wAndV, wOrV, wNotV, wIf, wNil, wCons, wTup, wLst, wCall, wCB, wIsT, wiR1, wiR2, wiSq, wiEn, wiZip, gN, gT1, gT2, gT3, gT4, gT5, gT6, gT7, wYes, gAdd, DV.gSub, gMul, gMod, gDiv, gPow, gLt, gLe, gGt, gGe, gCmp, gEq, gNe, gIs, gIsN, isNon, gIn, gNotIn, gIx, gSlc, wSlc, wNoP, wPart, gLen, gAbs, gInt, gMin2, gMax2, gAll, gAny, gSum, gTuple, wNeg, wRev, itemsOf, D.isTy, D.isHand, Sl.toD, big_0, big_1, big_2, big_3, big_4, big_5, big_6, big_7, big_8, big_9, big_10, big_11, big_12, draw_iff, own_ex, val_ex, wipeE, restE, Sl.keep, Option.getD_some, get_z, get_s, set_z, set_s, List.length_cons, List.length_nil, atI_0, atI_1, atI_2, atI_3, atI_4, ixN_5_0, ixN_5_1, ixN_5_2, ixN_5_3, ixN_5_4, D.bl.injEq, D.int.injEq, D.lst.injEq, D.tup.injEq, D.str.injEq, Sl.own.injEq, Sl.val.injEq, Option.some.injEq, exists_eq_left', exists_eq_left, exists_eq', exists_eq, or_true, true_or, or_false, false_or, CMul, CPow, natAbs_10, natAbs_2, Int.cast_ofNat_Int, Nat.reducePow, exists_and_left, exists_const, and_assoc, true_and, and_true, and_self, false_and, and_false, if_true, if_false, ite_true, ite_false, reduceCtorEq, decide_true, decide_false, decide_eq_true_eq, decide_eq_false_iff_not, Bool.not_true, Bool.not_false, Bool.false_eq_true, List.replicate_zero, List.replicate_succ, List.map_cons, List.map_nil, List.nil_append, List.cons_append, Nat.reduceSub, Nat.reduceAdd, Nat.reduceLeDiff, Nat.reduceLT, Int.reduceLT, Int.reduceLE, Int.reduceAdd, Int.reduceSub, Int.reduceMul, Int.reduceNeg, Int.reduceMod, Int.reduceDiv, Int.reducePow, Int.reduceToNat, okD_int, okD_bl, okD_lst, okD_tup, okD_non, okL_nil, okL_cons, okD_str, okL_int, eqD_int, eqD_bl, eqD_str, eqD_tup, eqD_lst, eqL_cons, eqL_nil, eqL_cn, eqL_nc, eqL_int, Bool.and_eq_true, Bool.or_eq_true, Bool.not_eq_true', Bool.and_false, Bool.false_and, Bool.or_false, Bool.false_or, Bool.or_true, Bool.true_or, Bool.and_true, Bool.true_and, Bool.and_self])
    refine ⟨.inl ⟨by omega, by omega⟩, ?_⟩
    refine sp_law_power (by omega) (by omega) ?_
    unfold cTwo at hc
    rw [decide_eq_true_iff] at hc
    simp only [wSeq, wAsg, wOwn, wF, wLc, wSkip, wBrk, wCnt, wRet, wRetF, wRetN, wDrop, wIfS, wPar, wFor, wWh, wV, wApp, wExt, wSetIx, wAug, wVal, wLook, wC, wOp, wTst, wChain, wAnd, wOr, wNot, wAndV, wOrV, wNotV, wIf, wNil, wCons, wTup, wLst, wCall, wCB, wIsT, wiR1, wiR2, wiSq, wiEn, wiZip, gN, gT1, gT2, gT3, gT4, gT5, gT6, gT7, wYes, gAdd, DV.gSub, gMul, gMod, gDiv, gPow, gLt, gLe, gGt, gGe, gCmp, gEq, gNe, gIs, gIsN, isNon, gIn, gNotIn, gIx, gSlc, wSlc, wNoP, wPart, gLen, gAbs, gInt, gMin2, gMax2, gAll, gAny, gSum, gTuple, wNeg, wRev, itemsOf, D.isTy, D.isHand, Sl.toD, big_0, big_1, big_2, big_3, big_4, big_5, big_6, big_7, big_8, big_9, big_10, big_11, big_12, draw_iff, own_ex, val_ex, wipeE, restE, Sl.keep, Option.getD_some, get_z, get_s, set_z, set_s, List.length_cons, List.length_nil, atI_0, atI_1, atI_2, atI_3, atI_4, ixN_5_0, ixN_5_1, ixN_5_2, ixN_5_3, ixN_5_4, D.bl.injEq, D.int.injEq, D.lst.injEq, D.tup.injEq, D.str.injEq, Sl.own.injEq, Sl.val.injEq, Option.some.injEq, exists_eq_left', exists_eq_left, exists_eq', exists_eq, or_true, true_or, or_false, false_or, CMul, CPow, natAbs_10, natAbs_2, Int.cast_ofNat_Int, Nat.reducePow, exists_and_left, exists_const, and_assoc, true_and, and_true, and_self, false_and, and_false, if_true, if_false, ite_true, ite_false, reduceCtorEq, decide_true, decide_false, decide_eq_true_eq, decide_eq_false_iff_not, Bool.not_true, Bool.not_false, Bool.false_eq_true, List.replicate_zero, List.replicate_succ, List.map_cons, List.map_nil, List.nil_append, List.cons_append, Nat.reduceSub, Nat.reduceAdd, Nat.reduceLeDiff, Nat.reduceLT, Int.reduceLT, Int.reduceLE, Int.reduceAdd, Int.reduceSub, Int.reduceMul, Int.reduceNeg, Int.reduceMod, Int.reduceDiv, Int.reducePow, Int.reduceToNat, okD_int, okD_bl, okD_lst, okD_tup, okD_non, okL_nil, okL_cons, okD_str, okL_int, eqD_int, eqD_bl, eqD_str, eqD_tup, eqD_lst, eqL_cons, eqL_nil, eqL_cn, eqL_nc, eqL_int, Bool.and_eq_true, Bool.or_eq_true, Bool.not_eq_true', Bool.and_false, Bool.false_and, Bool.or_false, Bool.false_or, Bool.or_true, Bool.true_or, Bool.and_true, Bool.true_and, Bool.and_self, hc]
    refine ⟨.inl ⟨by omega, by omega⟩, by omega, ?_⟩
    exact l10 (n := n) f h
theorem l3 {b q : Nat} (f : FitOk b q) {n : Int} (n1 : 1 ≤ n) (n2 : n ≤ 24) {s4 s5 s6 s7 s8 s9 s10 s11 s12 s13 s14 : Sl} {P : Post} (h : ∀ e, P.rt (.bl true) e) :
    B__law_is_right_3 [.val .hand, .val (.int b), .val (.int q), .val (.int n), s4, s5, s6, s7, s8, s9, s10, s11, s12, s13, s14, .no] P := by
  unfold B__law_is_right_3
  (try simp only [wSeq, wAsg, wOwn, wF, wLc, wSkip, wBrk, wCnt, wRet, wRetF, wRetN, wDrop, wIfS, wPar, wFor, wWh, wV, wApp, wExt, wSetIx, wAug, wVal, wLook, wC, wOp, wTst, wChain, wAnd, wOr, wNot, wAndV, wOrV, wNotV, wIf, wNil, wCons, wTup, wLst, wCall, wCB, wIsT, wiR1, wiR2, wiSq, wiEn, wiZip, gN, gT1, gT2, gT3, gT4, gT5, gT6, gT7, wYes, gAdd, DV.gSub, gMul, gMod, gDiv, gPow, gLt, gLe, gGt, gGe, gCmp, gEq, gNe, gIs, gIsN, isNon, gIn, gNotIn, gIx, gSlc, wSlc, wNoP, wPart, gLen, gAbs, gInt, gMin2, gMax2, gAll, gAny, gSum, gTuple, wNeg, wRev, itemsOf, D.isTy, D.isHand, Sl.toD, big_0, big_1, big_2, big_3, big_4, big_5, big_6, big_7, big_8, big_9, big_10, big_11, big_12, draw_iff, own_ex, val_ex, wipeE, restE, Sl.keep, Option.getD_some, get_z, get_s, set_z, set_s, List.length_cons, List.length_nil, atI_0, atI_1, atI_2, atI_3, atI_4, ixN_5_0, ixN_5_1, ixN_5_2, ixN_5_3, ixN_5_4, D.bl.injEq, D.int.injEq, D.lst.injEq, D.tup.injEq, D.str.injEq, Sl.own.injEq, Sl.val.injEq, Option.some.injEq, exists_eq_left', exists_eq_left, exists_eq', exists_eq, or_true, true_or, or_false, false_or, CMul, CPow, natAbs_10, natAbs_2, Int.cast_ofNat_Int, Nat.reducePow, exists_and_left, exists_const, and_assoc, true_and, and_true, and_self, false_and, and_false, if_true, if_false, ite_true, ite_false, reduceCtorEq, decide_true, decide_false, decide_eq_true_eq, decide_eq_false_iff_not, Bool.not_true, Bool.not_false, Bool.false_eq_true, List.replicate_zero, List.replicate_succ, List.map_cons, List.map_nil, List.nil_append, List.cons_append, Nat.reduceSub, Nat.reduceAdd, Nat.reduceLeDiff, Nat.reduceLT, Int.reduceLT, Int.reduceLE, Int.reduceAdd, Int.reduceSub, Int.reduceMul, Int.reduceNeg, Int.reduceMod, Int.reduceDiv, Int.reducePow, Int.reduceToNat, okD_int, okD_bl, okD_lst, okD_tup, okD_non, okL_nil, okL_cons, okD_str, okL_int, eqD_int, eqD_bl, eqD_str, eqD_tup, eqD_lst, eqL_cons, eqL_nil, eqL_cn, eqL_nc, eqL_int, Bool.and_eq_true, Bool.or_eq_true, Bool.not_eq_true', Bool.and_false, Bool.false_and, Bool.or_false, Bool.false_or, Bool.or_true, Bool.true_or, Bool.and_true, Bool.true_and, Bool.and_self])
  refine sp_unseen_two f n1 n2 ?_
  (try simp only [wSeq, wAsg, wOwn, wF, wLc, wSkip, wBrk, wCnt, wRet, wRetF, wRetN, wDrop, wIfS, wPar, wFor, wWh, wV, wApp, wExt, wSetIx, wAug, wVal, wLook, wC, wOp, wTst, wChain, wAnd, wOr, wNot, wAndV, wOrV, wNotV, wIf, wNil, wCons, wTup, wLst, wCall, wCB, wIsT, wiR1, wiR2, wiSq, wiEn, wiZip, gN, gT1, gT2, gT3, gT4, gT5, gT6, gT7, wYes, gAdd, DV.gSub, gMul, gMod, gDiv, gPow, gLt, gLe, gGt, gGe, gCmp, gEq, gNe, gIs, gIsN, isNon, gIn, gNotIn, gIx, gSlc, wSlc, wNoP, wPart, gLen, gAbs, gInt, gMin2, gMax2, gAll, gAny, gSum, gTuple, wNeg, wRev, itemsOf, D.isTy, D.isHand, Sl.toD, big_0, big_1, big_2, big_3, big_4, big_5, big_6, big_7, big_8, big_9, big_10, big_11, big_12, draw_iff, own_ex, val_ex, wipeE, restE, Sl.keep, Option.getD_some, get_z, get_s, set_z, set_s, List.length_cons, List.length_nil, atI_0, atI_1, atI_2, atI_3, atI_4, ixN_5_0, ixN_5_1, ixN_5_2, ixN_5_3, ixN_5_4, D.bl.injEq, D.int.injEq, D.lst.injEq, D.tup.injEq, D.str.injEq, Sl.own.injEq, Sl.val.injEq, Option.some.injEq, exists_eq_left', exists_eq_left, exists_eq', exists_eq, or_true, true_or, or_false, false_or, CMul, CPow, natAbs_10, natAbs_2, Int.cast_ofNat_Int, Nat.reducePow, exists_and_left, exists_const, and_assoc, true_and, and_true, and_self, false_and, and_false, if_true, if_false, ite_true, ite_false, reduceCtorEq, decide_true, decide_false, decide_eq_true_eq, decide_eq_false_iff_not, Bool.not_true, Bool.not_false, Bool.false_eq_true, List.replicate_zero, List.replicate_succ, List.map_cons, List.map_nil, List.nil_append, List.cons_append, Nat.reduceSub, Nat.reduceAdd, Nat.reduceLeDiff, Nat.reduceLT, Int.reduceLT, Int.reduceLE, Int.reduceAdd, Int.reduceSub, Int.reduceMul, Int.reduceNeg, Int.reduceMod, Int.reduceDiv, Int.reducePow, Int.reduceToNat, okD_int, okD_bl, okD_lst, okD_tup, okD_non, okL_nil, okL_cons, okD_str, okL_int, eqD_int, eqD_bl, eqD_str, eqD_tup, eqD_lst, eqL_cons, eqL_nil, eqL_cn, eqL_nc, eqL_int, Bool.and_eq_true, Bool.or_eq_true, Bool.not_eq_true', Bool.and_false, Bool.false_and, Bool.or_false, Bool.false_or, Bool.or_true, Bool.true_or, Bool.and_true, Bool.true_and, Bool.and_self])
  unfold B__law_is_right_4
  (try simp only [wSeq, wAsg, wOwn, wF, wLc, wSkip, wBrk, wCnt, wRet, wRetF, wRetN, wDrop, wIfS, wPar, wFor, wWh, wV, wApp, wExt, wSetIx, wAug, wVal, wLook, wC, wOp, wTst, wChain, wAnd, wOr, wNot, wAndV, wOrV, wNotV, wIf, wNil, wCons, wTup, wLst, wCall, wCB, wIsT, wiR1, wiR2, wiSq, wiEn, wiZip, gN, gT1, gT2, gT3, gT4, gT5, gT6, gT7, wYes, gAdd, DV.gSub, gMul, gMod, gDiv, gPow, gLt, gLe, gGt, gGe, gCmp, gEq, gNe, gIs, gIsN, isNon, gIn, gNotIn, gIx, gSlc, wSlc, wNoP, wPart, gLen, gAbs, gInt, gMin2, gMax2, gAll, gAny, gSum, gTuple, wNeg, wRev, itemsOf, D.isTy, D.isHand, Sl.toD, big_0, big_1, big_2, big_3, big_4, big_5, big_6, big_7, big_8, big_9, big_10, big_11, big_12, draw_iff, own_ex, val_ex, wipeE, restE, Sl.keep, Option.getD_some, get_z, get_s, set_z, set_s, List.length_cons, List.length_nil, atI_0, atI_1, atI_2, atI_3, atI_4, ixN_5_0, ixN_5_1, ixN_5_2, ixN_5_3, ixN_5_4, D.bl.injEq, D.int.injEq, D.lst.injEq, D.tup.injEq, D.str.injEq, Sl.own.injEq, Sl.val.injEq, Option.some.injEq, exists_eq_left', exists_eq_left, exists_eq', exists_eq, or_true, true_or, or_false, false_or, CMul, CPow, natAbs_10, natAbs_2, Int.cast_ofNat_Int, Nat.reducePow, exists_and_left, exists_const, and_assoc, true_and, and_true, and_self, false_and, and_false, if_true, if_false, ite_true, ite_false, reduceCtorEq, decide_true, decide_false, decide_eq_true_eq, decide_eq_false_iff_not, Bool.not_true, Bool.not_false, Bool.false_eq_true, List.replicate_zero, List.replicate_succ, List.map_cons, List.map_nil, List.nil_append, List.cons_append, Nat.reduceSub, Nat.reduceAdd, Nat.reduceLeDiff, Nat.reduceLT, Int.reduceLT, Int.reduceLE, Int.reduceAdd, Int.reduceSub, Int.reduceMul, Int.reduceNeg, Int.reduceMod, Int.reduceDiv, Int.reducePow, Int.reduceToNat, okD_int, okD_bl, okD_lst, okD_tup, okD_non, okL_nil, okL_cons, okD_str, okL_int, eqD_int, eqD_bl, eqD_str, eqD_tup, eqD_lst, eqL_cons, eqL_nil, eqL_cn, eqL_nc, eqL_int, Bool.and_eq_true, Bool.or_eq_true, Bool.not_eq_true', Bool.and_false, Bool.false_and, Bool.or_false, Bool.false_or, Bool.or_true, Bool.true_or, Bool.and_true, Bool.true_and, Bool.and_self])
  refine sp_law_two f n1 n2 ?_
  (try simp only [wSeq, wAsg, wOwn, wF, wLc, wSkip, wBrk, wCnt, wRet, wRetF, wRetN, wDrop, wIfS, wPar, wFor, wWh, wV, wApp, wExt, wSetIx, wAug, wVal, wLook, wC, wOp, wTst, wChain, wAnd, wOr, wNot, wAndV, wOrV, wNotV, wIf, wNil, wCons, wTup, wLst, wCall, wCB, wIsT, wiR1, wiR2, wiSq, wiEn, wiZip, gN, gT1, gT2, gT3, gT4, gT5, gT6, gT7, wYes, gAdd, DV.gSub, gMul, gMod, gDiv, gPow, gLt, gLe, gGt, gGe, gCmp, gEq, gNe, gIs, gIsN, isNon, gIn, gNotIn, gIx, gSlc, wSlc, wNoP, wPart, gLen, gAbs, gInt, gMin2, gMax2, gAll, gAny, gSum, gTuple, wNeg, wRev, itemsOf, D.isTy, D.isHand, Sl.toD, big_0, big_1, big_2, big_3, big_4, big_5, big_6, big_7, big_8, big_9, big_10, big_11, big_12, draw_iff, own_ex, val_ex, wipeE, restE, Sl.keep, Option.getD_some, get_z, get_s, set_z, set_s, List.length_cons, List.length_nil, atI_0, atI_1, atI_2, atI_3, atI_4, ixN_5_0, ixN_5_1, ixN_5_2, ixN_5_3, ixN_5_4, D.bl.injEq, D.int.injEq, D.lst.injEq, D.tup.injEq, D.str.injEq, Sl.own.injEq, Sl.val.injEq, Option.some.injEq, exists_eq_left', exists_eq_left, exists_eq', exists_eq, or_true, true_or, or_false, false_or, CMul, CPow, natAbs_10, natAbs_2, Int.cast_ofNat_Int, Nat.reducePow, exists_and_left, exists_const, and_assoc, true_and, and_true, and_self, false_and, and_false, if_true, if_false, ite_true, ite_false, reduceCtorEq, decide_true, decide_false, decide_eq_true_eq, decide_eq_false_iff_not, Bool.not_true, Bool.not_false, Bool.false_eq_true, List.replicate_zero, List.replicate_succ, List.map_cons, List.map_nil, List.nil_append, List.cons_append, Nat.reduceSub, Nat.reduceAdd, Nat.reduceLeDiff, Nat.reduceLT, Int.reduceLT, Int.reduceLE, Int.reduceAdd, Int.reduceSub, Int.reduceMul, Int.reduceNeg, Int.reduceMod, Int.reduceDiv, Int.reducePow, Int.reduceToNat, okD_int, okD_bl, okD_lst, okD_tup, okD_non, okL_nil, okL_cons, okD_str, okL_int, eqD_int, eqD_bl, eqD_str, eqD_tup, eqD_lst, eqL_cons, eqL_nil, eqL_cn, eqL_nc, eqL_int, Bool.and_eq_true, Bool.or_eq_true, Bool.not_eq_true', Bool.and_false, Bool.false_and, Bool.or_false, Bool.false_or, Bool.or_true, Bool.true_or, Bool.and_true, Bool.true_and, Bool.and_self])
  refine sp_law_is (isOk_mono ok_two) ?_
  (try simp only [wSeq, wAsg, wOwn, wF, wLc, wSkip, wBrk, wCnt, wRet, wRetF, wRetN, wDrop, wIfS, wPar, wFor, wWh, wV, wApp, wExt, wSetIx, wAug, wVal, wLook, wC, wOp, wTst, wChain, wAnd, wOr, wNot, wAndV, wOrV, wNotV, wIf, wNil, wCons, wTup, wLst, wCall, wCB, wIsT, wiR1, wiR2, wiSq, wiEn, wiZip, gN, gT1, gT2, gT3, gT4, gT5, gT6, gT7, wYes, gAdd, DV.gSub, gMul, gMod, gDiv, gPow, gLt, gLe, gGt, gGe, gCmp, gEq, gNe, gIs, gIsN, isNon, gIn, gNotIn, gIx, gSlc, wSlc, wNoP, wPart, gLen, gAbs, gInt, gMin2, gMax2, gAll, gAny, gSum, gTuple, wNeg, wRev, itemsOf, D.isTy, D.isHand, Sl.toD, big_0, big_1, big_2, big_3, big_4, big_5, big_6, big_7, big_8, big_9, big_10, big_11, big_12, draw_iff, own_ex, val_ex, wipeE, restE, Sl.keep, Option.getD_some, get_z, get_s, set_z, set_s, List.length_cons, List.length_nil, atI_0, atI_1, atI_2, atI_3, atI_4, ixN_5_0, ixN_5_1, ixN_5_2, ixN_5_3, ixN_5_4, D.bl.injEq, D.int.injEq, D.lst.injEq, D.tup.injEq, D.str.injEq, Sl.own.injEq, Sl.val.injEq, Option.some.injEq, exists_eq_left', exists_eq_left, exists_eq', exists_eq, or_true, true_or, or_false, false_or, CMul, CPow, natAbs_10, natAbs_2, Int.cast_ofNat_Int, Nat.reducePow, exists_and_left, exists_const, and_assoc, true_and, and_true, and_self, false_and, and_false, if_true, if_false, ite_true, ite_false, reduceCtorEq, decide_true, decide_false, decide_eq_true_eq, decide_eq_false_iff_not, Bool.not_true, Bool.not_false, Bool.false_eq_true, List.replicate_zero, List.replicate_succ, List.map_cons, List.map_nil, List.nil_append, List.cons_append, Nat.reduceSub, Nat.reduceAdd, Nat.reduceLeDiff, Nat.reduceLT, Int.reduceLT, Int.reduceLE, Int.reduceAdd, Int.reduceSub, Int.reduceMul, Int.reduceNeg, Int.reduceMod, Int.reduceDiv, Int.reducePow, Int.reduceToNat, okD_int, okD_bl, okD_lst, okD_tup, okD_non, okL_nil, okL_cons, okD_str, okL_int, eqD_int, eqD_bl, eqD_str, eqD_tup, eqD_lst, eqL_cons, eqL_nil, eqL_cn, eqL_nc, eqL_int, Bool.and_eq_true, Bool.or_eq_true, Bool.not_eq_true', Bool.and_false, Bool.false_and, Bool.or_false, Bool.false_or, Bool.or_true, Bool.true_or, Bool.and_true, Bool.true_and, Bool.and_self])
  exact l6 f n1 n2 h
theorem sp_is_right (h : Q (.bl true)) : T__law_is_right [.hand] Q E := by
  unfold T__law_is_right wFn B__law_is_right
  (try simp only [wSeq, wAsg, wOwn, wF, wLc, wSkip, wBrk, wCnt, wRet, wRetF, wRetN, wDrop, wIfS, wPar, wFor, wWh, wV, wApp, wExt, wSetIx, wAug, wVal, wLook, wC, wOp, wTst, wChain, wAnd, wOr, wNot, wAndV, wOrV, wNotV, wIf, wNil, wCons, wTup, wLst, wCall, wCB, wIsT, wiR1, wiR2, wiSq, wiEn, wiZip, gN, gT1, gT2, gT3, gT4, gT5, gT6, gT7, wYes, gAdd, DV.gSub, gMul, gMod, gDiv, gPow, gLt, gLe, gGt, gGe, gCmp, gEq, gNe, gIs, gIsN, isNon, gIn, gNotIn, gIx, gSlc, wSlc, wNoP, wPart, gLen, gAbs, gInt, gMin2, gMax2, gAll, gAny, gSum, gTuple, wNeg, wRev, itemsOf, D.isTy, D.isHand, Sl.toD, big_0, big_1, big_2, big_3, big_4, big_5, big_6, big_7, big_8, big_9, big_10, big_11, big_12, draw_iff, own_ex, val_ex, wipeE, restE, Sl.keep, Option.getD_some, get_z, get_s, set_z, set_s, List.length_cons, List.length_nil, atI_0, atI_1, atI_2, atI_3, atI_4, ixN_5_0, ixN_5_1, ixN_5_2, ixN_5_3, ixN_5_4, D.bl.injEq, D.int.injEq, D.lst.injEq, D.tup.injEq, D.str.injEq, Sl.own.injEq, Sl.val.injEq, Option.some.injEq, exists_eq_left', exists_eq_left, exists_eq', exists_eq, or_true, true_or, or_false, false_or, CMul, CPow, natAbs_10, natAbs_2, Int.cast_ofNat_Int, Nat.reducePow, exists_and_left, exists_const, and_assoc, true_and, and_true, and_self, false_and, and_false, if_true, if_false, ite_true, ite_false, reduceCtorEq, decide_true, decide_false, decide_eq_true_eq, decide_eq_false_iff_not, Bool.not_true, Bool.not_false, Bool.false_eq_true, List.replicate_zero, List.replicate_succ, List.map_cons, List.map_nil, List.nil_append, List.cons_append, Nat.reduceSub, Nat.reduceAdd, Nat.reduceLeDiff, Nat.reduceLT, Int.reduceLT, Int.reduceLE, Int.reduceAdd, Int.reduceSub, Int.reduceMul, Int.reduceNeg, Int.reduceMod, Int.reduceDiv, Int.reducePow, Int.reduceToNat, okD_int, okD_bl, okD_lst, okD_tup, okD_non, okL_nil, okL_cons, okD_str, okL_int, eqD_int, eqD_bl, eqD_str, eqD_tup, eqD_lst, eqL_cons, eqL_nil, eqL_cn, eqL_nc, eqL_int, Bool.and_eq_true, Bool.or_eq_true, Bool.not_eq_true', Bool.and_false, Bool.false_and, Bool.or_false, Bool.false_or, Bool.or_true, Bool.true_or, Bool.and_true, Bool.true_and, Bool.and_self])
  intro d d1 d2
  obtain ⟨b, hb⟩ := Int.eq_ofNat_of_zero_le (show 0 ≤ 2 + d by omega)
  rw [hb]
  unfold B__law_is_right_2
  have sq : (b : Int) * b ≤ 49 := by
    have := Int.mul_le_mul (show (b : Int) ≤ 7 by omega) (show (b : Int) ≤ 7 by omega) (by omega) (by decide)
    omega
  have sq2 : 4 ≤ (b : Int) * b := by
    have := Int.mul_le_mul (show 2 ≤ (b : Int) by omega) (show 2 ≤ (b : Int) by omega) (by decide) (by omega)
    omega
  (try simp only [wSeq, wAsg, wOwn, wF, wLc, wSkip, wBrk, wCnt, wRet, wRetF, wRetN, wDrop, wIfS, wPar, wFor, wWh, wV, wApp, wExt, wSetIx, wAug, wVal, wLook, wC, wOp, wTst, wChain, wAnd, wOr, wNot, wAndV, wOrV, wNotV, wIf, wNil, wCons, wTup, wLst, wCall, wCB, wIsT, wiR1, wiR2, wiSq, wiEn, wiZip, gN, gT1, gT2, gT3, gT4, gT5, gT6, gT7, wYes, gAdd, DV.gSub, gMul, gMod, gDiv, gPow, gLt, gLe, gGt, gGe, gCmp, gEq, gNe, gIs, gIsN, isNon, gIn, gNotIn, gIx, gSlc, wSlc, wNoP, wPart, gLen, gAbs, gInt, gMin2, gMax2, gAll, gAny, gSum, gTuple, wNeg, wRev, itemsOf, D.isTy, D.isHand, Sl.toD, big_0, big_1, big_2, big_3, big_4, big_5, big_6, big_7, big_8, big_9, big_10, big_11, big_12, draw_iff, own_ex, val_ex, wipeE, restE, Sl.keep, Option.getD_some, get_z, get_s, set_z, set_s, List.length_cons, List.length_nil, atI_0, atI_1, atI_2, atI_3, atI_4, ixN_5_0, ixN_5_1, ixN_5_2, ixN_5_3, ixN_5_4, D.bl.injEq, D.int.injEq, D.lst.injEq, D.tup.injEq, D.str.injEq, Sl.own.injEq, Sl.val.injEq, Option.some.injEq, exists_eq_left', exists_eq_left, exists_eq', exists_eq, or_true, true_or, or_false, false_or, CMul, CPow, natAbs_10, natAbs_2, Int.cast_ofNat_Int, Nat.reducePow, exists_and_left, exists_const, and_assoc, true_and, and_true, and_self, false_and, and_false, if_true, if_false, ite_true, ite_false, reduceCtorEq, decide_true, decide_false, decide_eq_true_eq, decide_eq_false_iff_not, Bool.not_true, Bool.not_false, Bool.false_eq_true, List.replicate_zero, List.replicate_succ, List.map_cons, List.map_nil, List.nil_append, List.cons_append, Nat.reduceSub, Nat.reduceAdd, Nat.reduceLeDiff, Nat.reduceLT, Int.reduceLT, Int.reduceLE, Int.reduceAdd, Int.reduceSub, Int.reduceMul, Int.reduceNeg, Int.reduceMod, Int.reduceDiv, Int.reducePow, Int.reduceToNat, okD_int, okD_bl, okD_lst, okD_tup, okD_non, okL_nil, okL_cons, okD_str, okL_int, eqD_int, eqD_bl, eqD_str, eqD_tup, eqD_lst, eqL_cons, eqL_nil, eqL_cn, eqL_nc, eqL_int, Bool.and_eq_true, Bool.or_eq_true, Bool.not_eq_true', Bool.and_false, Bool.false_and, Bool.or_false, Bool.false_or, Bool.or_true, Bool.true_or, Bool.and_true, Bool.true_and, Bool.and_self])
  refine ⟨.inl ⟨by omega, by omega⟩, by omega, by omega, fun e e1 e2 d' d1' d2' => ?_⟩
  obtain ⟨q, hq⟩ := Int.eq_ofNat_of_zero_le (show 0 ≤ 2 + e by omega)
  rw [hq]
  exact l3 ⟨by omega, by omega, by omega, by omega, by omega⟩ (by omega) (by omega) fun _ => h
end
theorem fit_by {b q : Int} (h1 : 2 ≤ b := by decide) (h2 : b ≤ 36 := by decide) (h3 : 2 ≤ q := by decide) (h4 : q ≤ 200 := by decide) (h5 : q ≤ b * b := by decide) : FitOk b q := ⟨h1, h2, h3, h4, h5⟩
theorem hb_law : B_law (.no :: .val .hand :: List.replicate (3 - 2) .no) { nx := fun _ => False, rt := fun d _ => d = .bl true, bk := fun _ => False, ct := fun _ => False, ex := fun _ _ => False } := by
  have c97 : CoPart 10 97 97 := ⟨by decide, by decide, 1, 0, by decide, by decide⟩
  have c100 : CoPart 10 100 1 := ⟨by decide, by decide, 100, 2, by decide, by decide⟩
  have p1 : two 2 3 3 = .tup [.str "places", .int 0, .int 1, .int 1, .int 1] := by rfl
  have p2 : two 3 7 2 = .tup [.str "places", .int 0, .int 1, .int 1, .int 2] := by rfl
  unfold B_law
  (try simp only [wSeq, wAsg, wOwn, wF, wLc, wSkip, wBrk, wCnt, wRet, wRetF, wRetN, wDrop, wIfS, wPar, wFor, wWh, wV, wApp, wExt, wSetIx, wAug, wVal, wLook, wC, wOp, wTst, wChain, wAnd, wOr, wNot, wAndV, wOrV, wNotV, wIf, wNil, wCons, wTup, wLst, wCall, wCB, wIsT, wiR1, wiR2, wiSq, wiEn, wiZip, gN, gT1, gT2, gT3, gT4, gT5, gT6, gT7, wYes, gAdd, DV.gSub, gMul, gMod, gDiv, gPow, gLt, gLe, gGt, gGe, gCmp, gEq, gNe, gIs, gIsN, isNon, gIn, gNotIn, gIx, gSlc, wSlc, wNoP, wPart, gLen, gAbs, gInt, gMin2, gMax2, gAll, gAny, gSum, gTuple, wNeg, wRev, itemsOf, D.isTy, D.isHand, Sl.toD, big_0, big_1, big_2, big_3, big_4, big_5, big_6, big_7, big_8, big_9, big_10, big_11, big_12, draw_iff, own_ex, val_ex, wipeE, restE, Sl.keep, Option.getD_some, get_z, get_s, set_z, set_s, List.length_cons, List.length_nil, atI_0, atI_1, atI_2, atI_3, atI_4, ixN_5_0, ixN_5_1, ixN_5_2, ixN_5_3, ixN_5_4, D.bl.injEq, D.int.injEq, D.lst.injEq, D.tup.injEq, D.str.injEq, Sl.own.injEq, Sl.val.injEq, Option.some.injEq, exists_eq_left', exists_eq_left, exists_eq', exists_eq, or_true, true_or, or_false, false_or, CMul, CPow, natAbs_10, natAbs_2, Int.cast_ofNat_Int, Nat.reducePow, exists_and_left, exists_const, and_assoc, true_and, and_true, and_self, false_and, and_false, if_true, if_false, ite_true, ite_false, reduceCtorEq, decide_true, decide_false, decide_eq_true_eq, decide_eq_false_iff_not, Bool.not_true, Bool.not_false, Bool.false_eq_true, List.replicate_zero, List.replicate_succ, List.map_cons, List.map_nil, List.nil_append, List.cons_append, Nat.reduceSub, Nat.reduceAdd, Nat.reduceLeDiff, Nat.reduceLT, Int.reduceLT, Int.reduceLE, Int.reduceAdd, Int.reduceSub, Int.reduceMul, Int.reduceNeg, Int.reduceMod, Int.reduceDiv, Int.reducePow, Int.reduceToNat, okD_int, okD_bl, okD_lst, okD_tup, okD_non, okL_nil, okL_cons, okD_str, okL_int, eqD_int, eqD_bl, eqD_str, eqD_tup, eqD_lst, eqL_cons, eqL_nil, eqL_cn, eqL_nc, eqL_int, Bool.and_eq_true, Bool.or_eq_true, Bool.not_eq_true', Bool.and_false, Bool.false_and, Bool.or_false, Bool.false_or, Bool.or_true, Bool.true_or, Bool.and_true, Bool.true_and, Bool.and_self])
  refine sp_stretch_seen (b := 10) (q := 97) (w := 1) fit_by (by decide) (by decide) fun L c => ?_
  obtain rfl := c.eq c97
  rw [decide_eq_true (by decide)]
  (try simp only [wSeq, wAsg, wOwn, wF, wLc, wSkip, wBrk, wCnt, wRet, wRetF, wRetN, wDrop, wIfS, wPar, wFor, wWh, wV, wApp, wExt, wSetIx, wAug, wVal, wLook, wC, wOp, wTst, wChain, wAnd, wOr, wNot, wAndV, wOrV, wNotV, wIf, wNil, wCons, wTup, wLst, wCall, wCB, wIsT, wiR1, wiR2, wiSq, wiEn, wiZip, gN, gT1, gT2, gT3, gT4, gT5, gT6, gT7, wYes, gAdd, DV.gSub, gMul, gMod, gDiv, gPow, gLt, gLe, gGt, gGe, gCmp, gEq, gNe, gIs, gIsN, isNon, gIn, gNotIn, gIx, gSlc, wSlc, wNoP, wPart, gLen, gAbs, gInt, gMin2, gMax2, gAll, gAny, gSum, gTuple, wNeg, wRev, itemsOf, D.isTy, D.isHand, Sl.toD, big_0, big_1, big_2, big_3, big_4, big_5, big_6, big_7, big_8, big_9, big_10, big_11, big_12, draw_iff, own_ex, val_ex, wipeE, restE, Sl.keep, Option.getD_some, get_z, get_s, set_z, set_s, List.length_cons, List.length_nil, atI_0, atI_1, atI_2, atI_3, atI_4, ixN_5_0, ixN_5_1, ixN_5_2, ixN_5_3, ixN_5_4, D.bl.injEq, D.int.injEq, D.lst.injEq, D.tup.injEq, D.str.injEq, Sl.own.injEq, Sl.val.injEq, Option.some.injEq, exists_eq_left', exists_eq_left, exists_eq', exists_eq, or_true, true_or, or_false, false_or, CMul, CPow, natAbs_10, natAbs_2, Int.cast_ofNat_Int, Nat.reducePow, exists_and_left, exists_const, and_assoc, true_and, and_true, and_self, false_and, and_false, if_true, if_false, ite_true, ite_false, reduceCtorEq, decide_true, decide_false, decide_eq_true_eq, decide_eq_false_iff_not, Bool.not_true, Bool.not_false, Bool.false_eq_true, List.replicate_zero, List.replicate_succ, List.map_cons, List.map_nil, List.nil_append, List.cons_append, Nat.reduceSub, Nat.reduceAdd, Nat.reduceLeDiff, Nat.reduceLT, Int.reduceLT, Int.reduceLE, Int.reduceAdd, Int.reduceSub, Int.reduceMul, Int.reduceNeg, Int.reduceMod, Int.reduceDiv, Int.reducePow, Int.reduceToNat, okD_int, okD_bl, okD_lst, okD_tup, okD_non, okL_nil, okL_cons, okD_str, okL_int, eqD_int, eqD_bl, eqD_str, eqD_tup, eqD_lst, eqL_cons, eqL_nil, eqL_cn, eqL_nc, eqL_int, Bool.and_eq_true, Bool.or_eq_true, Bool.not_eq_true', Bool.and_false, Bool.false_and, Bool.or_false, Bool.false_or, Bool.or_true, Bool.true_or, Bool.and_true, Bool.true_and, Bool.and_self])
  refine sp_stretch_seen (b := 10) (q := 97) (w := 2) fit_by (by decide) (by decide) fun L c => ?_
  obtain rfl := c.eq c97
  rw [decide_eq_false (by decide)]
  (try simp only [wSeq, wAsg, wOwn, wF, wLc, wSkip, wBrk, wCnt, wRet, wRetF, wRetN, wDrop, wIfS, wPar, wFor, wWh, wV, wApp, wExt, wSetIx, wAug, wVal, wLook, wC, wOp, wTst, wChain, wAnd, wOr, wNot, wAndV, wOrV, wNotV, wIf, wNil, wCons, wTup, wLst, wCall, wCB, wIsT, wiR1, wiR2, wiSq, wiEn, wiZip, gN, gT1, gT2, gT3, gT4, gT5, gT6, gT7, wYes, gAdd, DV.gSub, gMul, gMod, gDiv, gPow, gLt, gLe, gGt, gGe, gCmp, gEq, gNe, gIs, gIsN, isNon, gIn, gNotIn, gIx, gSlc, wSlc, wNoP, wPart, gLen, gAbs, gInt, gMin2, gMax2, gAll, gAny, gSum, gTuple, wNeg, wRev, itemsOf, D.isTy, D.isHand, Sl.toD, big_0, big_1, big_2, big_3, big_4, big_5, big_6, big_7, big_8, big_9, big_10, big_11, big_12, draw_iff, own_ex, val_ex, wipeE, restE, Sl.keep, Option.getD_some, get_z, get_s, set_z, set_s, List.length_cons, List.length_nil, atI_0, atI_1, atI_2, atI_3, atI_4, ixN_5_0, ixN_5_1, ixN_5_2, ixN_5_3, ixN_5_4, D.bl.injEq, D.int.injEq, D.lst.injEq, D.tup.injEq, D.str.injEq, Sl.own.injEq, Sl.val.injEq, Option.some.injEq, exists_eq_left', exists_eq_left, exists_eq', exists_eq, or_true, true_or, or_false, false_or, CMul, CPow, natAbs_10, natAbs_2, Int.cast_ofNat_Int, Nat.reducePow, exists_and_left, exists_const, and_assoc, true_and, and_true, and_self, false_and, and_false, if_true, if_false, ite_true, ite_false, reduceCtorEq, decide_true, decide_false, decide_eq_true_eq, decide_eq_false_iff_not, Bool.not_true, Bool.not_false, Bool.false_eq_true, List.replicate_zero, List.replicate_succ, List.map_cons, List.map_nil, List.nil_append, List.cons_append, Nat.reduceSub, Nat.reduceAdd, Nat.reduceLeDiff, Nat.reduceLT, Int.reduceLT, Int.reduceLE, Int.reduceAdd, Int.reduceSub, Int.reduceMul, Int.reduceNeg, Int.reduceMod, Int.reduceDiv, Int.reducePow, Int.reduceToNat, okD_int, okD_bl, okD_lst, okD_tup, okD_non, okL_nil, okL_cons, okD_str, okL_int, eqD_int, eqD_bl, eqD_str, eqD_tup, eqD_lst, eqL_cons, eqL_nil, eqL_cn, eqL_nc, eqL_int, Bool.and_eq_true, Bool.or_eq_true, Bool.not_eq_true', Bool.and_false, Bool.false_and, Bool.or_false, Bool.false_or, Bool.or_true, Bool.true_or, Bool.and_true, Bool.true_and, Bool.and_self])
  unfold B_law_4
  (try simp only [wSeq, wAsg, wOwn, wF, wLc, wSkip, wBrk, wCnt, wRet, wRetF, wRetN, wDrop, wIfS, wPar, wFor, wWh, wV, wApp, wExt, wSetIx, wAug, wVal, wLook, wC, wOp, wTst, wChain, wAnd, wOr, wNot, wAndV, wOrV, wNotV, wIf, wNil, wCons, wTup, wLst, wCall, wCB, wIsT, wiR1, wiR2, wiSq, wiEn, wiZip, gN, gT1, gT2, gT3, gT4, gT5, gT6, gT7, wYes, gAdd, DV.gSub, gMul, gMod, gDiv, gPow, gLt, gLe, gGt, gGe, gCmp, gEq, gNe, gIs, gIsN, isNon, gIn, gNotIn, gIx, gSlc, wSlc, wNoP, wPart, gLen, gAbs, gInt, gMin2, gMax2, gAll, gAny, gSum, gTuple, wNeg, wRev, itemsOf, D.isTy, D.isHand, Sl.toD, big_0, big_1, big_2, big_3, big_4, big_5, big_6, big_7, big_8, big_9, big_10, big_11, big_12, draw_iff, own_ex, val_ex, wipeE, restE, Sl.keep, Option.getD_some, get_z, get_s, set_z, set_s, List.length_cons, List.length_nil, atI_0, atI_1, atI_2, atI_3, atI_4, ixN_5_0, ixN_5_1, ixN_5_2, ixN_5_3, ixN_5_4, D.bl.injEq, D.int.injEq, D.lst.injEq, D.tup.injEq, D.str.injEq, Sl.own.injEq, Sl.val.injEq, Option.some.injEq, exists_eq_left', exists_eq_left, exists_eq', exists_eq, or_true, true_or, or_false, false_or, CMul, CPow, natAbs_10, natAbs_2, Int.cast_ofNat_Int, Nat.reducePow, exists_and_left, exists_const, and_assoc, true_and, and_true, and_self, false_and, and_false, if_true, if_false, ite_true, ite_false, reduceCtorEq, decide_true, decide_false, decide_eq_true_eq, decide_eq_false_iff_not, Bool.not_true, Bool.not_false, Bool.false_eq_true, List.replicate_zero, List.replicate_succ, List.map_cons, List.map_nil, List.nil_append, List.cons_append, Nat.reduceSub, Nat.reduceAdd, Nat.reduceLeDiff, Nat.reduceLT, Int.reduceLT, Int.reduceLE, Int.reduceAdd, Int.reduceSub, Int.reduceMul, Int.reduceNeg, Int.reduceMod, Int.reduceDiv, Int.reducePow, Int.reduceToNat, okD_int, okD_bl, okD_lst, okD_tup, okD_non, okL_nil, okL_cons, okD_str, okL_int, eqD_int, eqD_bl, eqD_str, eqD_tup, eqD_lst, eqL_cons, eqL_nil, eqL_cn, eqL_nc, eqL_int, Bool.and_eq_true, Bool.or_eq_true, Bool.not_eq_true', Bool.and_false, Bool.false_and, Bool.or_false, Bool.false_or, Bool.or_true, Bool.true_or, Bool.and_true, Bool.true_and, Bool.and_self])
  refine sp_stretch_seen (b := 10) (q := 100) (w := 1) fit_by (by decide) (by decide) fun L c => ?_
  obtain rfl := c.eq c100
  rw [decide_eq_false (by decide)]
  (try simp only [wSeq, wAsg, wOwn, wF, wLc, wSkip, wBrk, wCnt, wRet, wRetF, wRetN, wDrop, wIfS, wPar, wFor, wWh, wV, wApp, wExt, wSetIx, wAug, wVal, wLook, wC, wOp, wTst, wChain, wAnd, wOr, wNot, wAndV, wOrV, wNotV, wIf, wNil, wCons, wTup, wLst, wCall, wCB, wIsT, wiR1, wiR2, wiSq, wiEn, wiZip, gN, gT1, gT2, gT3, gT4, gT5, gT6, gT7, wYes, gAdd, DV.gSub, gMul, gMod, gDiv, gPow, gLt, gLe, gGt, gGe, gCmp, gEq, gNe, gIs, gIsN, isNon, gIn, gNotIn, gIx, gSlc, wSlc, wNoP, wPart, gLen, gAbs, gInt, gMin2, gMax2, gAll, gAny, gSum, gTuple, wNeg, wRev, itemsOf, D.isTy, D.isHand, Sl.toD, big_0, big_1, big_2, big_3, big_4, big_5, big_6, big_7, big_8, big_9, big_10, big_11, big_12, draw_iff, own_ex, val_ex, wipeE, restE, Sl.keep, Option.getD_some, get_z, get_s, set_z, set_s, List.length_cons, List.length_nil, atI_0, atI_1, atI_2, atI_3, atI_4, ixN_5_0, ixN_5_1, ixN_5_2, ixN_5_3, ixN_5_4, D.bl.injEq, D.int.injEq, D.lst.injEq, D.tup.injEq, D.str.injEq, Sl.own.injEq, Sl.val.injEq, Option.some.injEq, exists_eq_left', exists_eq_left, exists_eq', exists_eq, or_true, true_or, or_false, false_or, CMul, CPow, natAbs_10, natAbs_2, Int.cast_ofNat_Int, Nat.reducePow, exists_and_left, exists_const, and_assoc, true_and, and_true, and_self, false_and, and_false, if_true, if_false, ite_true, ite_false, reduceCtorEq, decide_true, decide_false, decide_eq_true_eq, decide_eq_false_iff_not, Bool.not_true, Bool.not_false, Bool.false_eq_true, List.replicate_zero, List.replicate_succ, List.map_cons, List.map_nil, List.nil_append, List.cons_append, Nat.reduceSub, Nat.reduceAdd, Nat.reduceLeDiff, Nat.reduceLT, Int.reduceLT, Int.reduceLE, Int.reduceAdd, Int.reduceSub, Int.reduceMul, Int.reduceNeg, Int.reduceMod, Int.reduceDiv, Int.reducePow, Int.reduceToNat, okD_int, okD_bl, okD_lst, okD_tup, okD_non, okL_nil, okL_cons, okD_str, okL_int, eqD_int, eqD_bl, eqD_str, eqD_tup, eqD_lst, eqL_cons, eqL_nil, eqL_cn, eqL_nc, eqL_int, Bool.and_eq_true, Bool.or_eq_true, Bool.not_eq_true', Bool.and_false, Bool.false_and, Bool.or_false, Bool.false_or, Bool.or_true, Bool.true_or, Bool.and_true, Bool.true_and, Bool.and_self])
  unfold B_law_6
  (try simp only [wSeq, wAsg, wOwn, wF, wLc, wSkip, wBrk, wCnt, wRet, wRetF, wRetN, wDrop, wIfS, wPar, wFor, wWh, wV, wApp, wExt, wSetIx, wAug, wVal, wLook, wC, wOp, wTst, wChain, wAnd, wOr, wNot, wAndV, wOrV, wNotV, wIf, wNil, wCons, wTup, wLst, wCall, wCB, wIsT, wiR1, wiR2, wiSq, wiEn, wiZip, gN, gT1, gT2, gT3, gT4, gT5, gT6, gT7, wYes, gAdd, DV.gSub, gMul, gMod, gDiv, gPow, gLt, gLe, gGt, gGe, gCmp, gEq, gNe, gIs, gIsN, isNon, gIn, gNotIn, gIx, gSlc, wSlc, wNoP, wPart, gLen, gAbs, gInt, gMin2, gMax2, gAll, gAny, gSum, gTuple, wNeg, wRev, itemsOf, D.isTy, D.isHand, Sl.toD, big_0, big_1, big_2, big_3, big_4, big_5, big_6, big_7, big_8, big_9, big_10, big_11, big_12, draw_iff, own_ex, val_ex, wipeE, restE, Sl.keep, Option.getD_some, get_z, get_s, set_z, set_s, List.length_cons, List.length_nil, atI_0, atI_1, atI_2, atI_3, atI_4, ixN_5_0, ixN_5_1, ixN_5_2, ixN_5_3, ixN_5_4, D.bl.injEq, D.int.injEq, D.lst.injEq, D.tup.injEq, D.str.injEq, Sl.own.injEq, Sl.val.injEq, Option.some.injEq, exists_eq_left', exists_eq_left, exists_eq', exists_eq, or_true, true_or, or_false, false_or, CMul, CPow, natAbs_10, natAbs_2, Int.cast_ofNat_Int, Nat.reducePow, exists_and_left, exists_const, and_assoc, true_and, and_true, and_self, false_and, and_false, if_true, if_false, ite_true, ite_false, reduceCtorEq, decide_true, decide_false, decide_eq_true_eq, decide_eq_false_iff_not, Bool.not_true, Bool.not_false, Bool.false_eq_true, List.replicate_zero, List.replicate_succ, List.map_cons, List.map_nil, List.nil_append, List.cons_append, Nat.reduceSub, Nat.reduceAdd, Nat.reduceLeDiff, Nat.reduceLT, Int.reduceLT, Int.reduceLE, Int.reduceAdd, Int.reduceSub, Int.reduceMul, Int.reduceNeg, Int.reduceMod, Int.reduceDiv, Int.reducePow, Int.reduceToNat, okD_int, okD_bl, okD_lst, okD_tup, okD_non, okL_nil, okL_cons, okD_str, okL_int, eqD_int, eqD_bl, eqD_str, eqD_tup, eqD_lst, eqL_cons, eqL_nil, eqL_cn, eqL_nc, eqL_int, Bool.and_eq_true, Bool.or_eq_true, Bool.not_eq_true', Bool.and_false, Bool.false_and, Bool.or_false, Bool.false_or, Bool.or_true, Bool.true_or, Bool.and_true, Bool.true_and, Bool.and_self])
  refine sp_unseen_two fit_by (by decide) (by decide) ?_
  simp only [wSeq, wAsg, wOwn, wF, wLc, wSkip, wBrk, wCnt, wRet, wRetF, wRetN, wDrop, wIfS, wPar, wFor, wWh, wV, wApp, wExt, wSetIx, wAug, wVal, wLook, wC, wOp, wTst, wChain, wAnd, wOr, wNot, wAndV, wOrV, wNotV, wIf, wNil, wCons, wTup, wLst, wCall, wCB, wIsT, wiR1, wiR2, wiSq, wiEn, wiZip, gN, gT1, gT2, gT3, gT4, gT5, gT6, gT7, wYes, gAdd, DV.gSub, gMul, gMod, gDiv, gPow, gLt, gLe, gGt, gGe, gCmp, gEq, gNe, gIs, gIsN, isNon, gIn, gNotIn, gIx, gSlc, wSlc, wNoP, wPart, gLen, gAbs, gInt, gMin2, gMax2, gAll, gAny, gSum, gTuple, wNeg, wRev, itemsOf, D.isTy, D.isHand, Sl.toD, big_0, big_1, big_2, big_3, big_4, big_5, big_6, big_7, big_8, big_9, big_10, big_11, big_12, draw_iff, own_ex, val_ex, wipeE, restE, Sl.keep, Option.getD_some, get_z, get_s, set_z, set_s, List.length_cons, List.length_nil, atI_0, atI_1, atI_2, atI_3, atI_4, ixN_5_0, ixN_5_1, ixN_5_2, ixN_5_3, ixN_5_4, D.bl.injEq, D.int.injEq, D.lst.injEq, D.tup.injEq, D.str.injEq, Sl.own.injEq, Sl.val.injEq, Option.some.injEq, exists_eq_left', exists_eq_left, exists_eq', exists_eq, or_true, true_or, or_false, false_or, CMul, CPow, natAbs_10, natAbs_2, Int.cast_ofNat_Int, Nat.reducePow, exists_and_left, exists_const, and_assoc, true_and, and_true, and_self, false_and, and_false, if_true, if_false, ite_true, ite_false, reduceCtorEq, decide_true, decide_false, decide_eq_true_eq, decide_eq_false_iff_not, Bool.not_true, Bool.not_false, Bool.false_eq_true, List.replicate_zero, List.replicate_succ, List.map_cons, List.map_nil, List.nil_append, List.cons_append, Nat.reduceSub, Nat.reduceAdd, Nat.reduceLeDiff, Nat.reduceLT, Int.reduceLT, Int.reduceLE, Int.reduceAdd, Int.reduceSub, Int.reduceMul, Int.reduceNeg, Int.reduceMod, Int.reduceDiv, Int.reducePow, Int.reduceToNat, okD_int, okD_bl, okD_lst, okD_tup, okD_non, okL_nil, okL_cons, okD_str, okL_int, eqD_int, eqD_bl, eqD_str, eqD_tup, eqD_lst, eqL_cons, eqL_nil, eqL_cn, eqL_nc, eqL_int, Bool.and_eq_true, Bool.or_eq_true, Bool.not_eq_true', Bool.and_false, Bool.false_and, Bool.or_false, Bool.false_or, Bool.or_true, Bool.true_or, Bool.and_true, Bool.true_and, Bool.and_self, p1, ok_s, ok_ps]
  refine sp_unseen_two fit_by (by decide) (by decide) ?_
  simp only [wSeq, wAsg, wOwn, wF, wLc, wSkip, wBrk, wCnt, wRet, wRetF, wRetN, wDrop, wIfS, wPar, wFor, wWh, wV, wApp, wExt, wSetIx, wAug, wVal, wLook, wC, wOp, wTst, wChain, wAnd, wOr, wNot, wAndV, wOrV, wNotV, wIf, wNil, wCons, wTup, wLst, wCall, wCB, wIsT, wiR1, wiR2, wiSq, wiEn, wiZip, gN, gT1, gT2, gT3, gT4, gT5, gT6, gT7, wYes, gAdd, DV.gSub, gMul, gMod, gDiv, gPow, gLt, gLe, gGt, gGe, gCmp, gEq, gNe, gIs, gIsN, isNon, gIn, gNotIn, gIx, gSlc, wSlc, wNoP, wPart, gLen, gAbs, gInt, gMin2, gMax2, gAll, gAny, gSum, gTuple, wNeg, wRev, itemsOf, D.isTy, D.isHand, Sl.toD, big_0, big_1, big_2, big_3, big_4, big_5, big_6, big_7, big_8, big_9, big_10, big_11, big_12, draw_iff, own_ex, val_ex, wipeE, restE, Sl.keep, Option.getD_some, get_z, get_s, set_z, set_s, List.length_cons, List.length_nil, atI_0, atI_1, atI_2, atI_3, atI_4, ixN_5_0, ixN_5_1, ixN_5_2, ixN_5_3, ixN_5_4, D.bl.injEq, D.int.injEq, D.lst.injEq, D.tup.injEq, D.str.injEq, Sl.own.injEq, Sl.val.injEq, Option.some.injEq, exists_eq_left', exists_eq_left, exists_eq', exists_eq, or_true, true_or, or_false, false_or, CMul, CPow, natAbs_10, natAbs_2, Int.cast_ofNat_Int, Nat.reducePow, exists_and_left, exists_const, and_assoc, true_and, and_true, and_self, false_and, and_false, if_true, if_false, ite_true, ite_false, reduceCtorEq, decide_true, decide_false, decide_eq_true_eq, decide_eq_false_iff_not, Bool.not_true, Bool.not_false, Bool.false_eq_true, List.replicate_zero, List.replicate_succ, List.map_cons, List.map_nil, List.nil_append, List.cons_append, Nat.reduceSub, Nat.reduceAdd, Nat.reduceLeDiff, Nat.reduceLT, Int.reduceLT, Int.reduceLE, Int.reduceAdd, Int.reduceSub, Int.reduceMul, Int.reduceNeg, Int.reduceMod, Int.reduceDiv, Int.reducePow, Int.reduceToNat, okD_int, okD_bl, okD_lst, okD_tup, okD_non, okL_nil, okL_cons, okD_str, okL_int, eqD_int, eqD_bl, eqD_str, eqD_tup, eqD_lst, eqL_cons, eqL_nil, eqL_cn, eqL_nc, eqL_int, Bool.and_eq_true, Bool.or_eq_true, Bool.not_eq_true', Bool.and_false, Bool.false_and, Bool.or_false, Bool.false_or, Bool.or_true, Bool.true_or, Bool.and_true, Bool.true_and, Bool.and_self, p2, ok_s, ok_ps]
  unfold B_law_8
  (try simp only [wSeq, wAsg, wOwn, wF, wLc, wSkip, wBrk, wCnt, wRet, wRetF, wRetN, wDrop, wIfS, wPar, wFor, wWh, wV, wApp, wExt, wSetIx, wAug, wVal, wLook, wC, wOp, wTst, wChain, wAnd, wOr, wNot, wAndV, wOrV, wNotV, wIf, wNil, wCons, wTup, wLst, wCall, wCB, wIsT, wiR1, wiR2, wiSq, wiEn, wiZip, gN, gT1, gT2, gT3, gT4, gT5, gT6, gT7, wYes, gAdd, DV.gSub, gMul, gMod, gDiv, gPow, gLt, gLe, gGt, gGe, gCmp, gEq, gNe, gIs, gIsN, isNon, gIn, gNotIn, gIx, gSlc, wSlc, wNoP, wPart, gLen, gAbs, gInt, gMin2, gMax2, gAll, gAny, gSum, gTuple, wNeg, wRev, itemsOf, D.isTy, D.isHand, Sl.toD, big_0, big_1, big_2, big_3, big_4, big_5, big_6, big_7, big_8, big_9, big_10, big_11, big_12, draw_iff, own_ex, val_ex, wipeE, restE, Sl.keep, Option.getD_some, get_z, get_s, set_z, set_s, List.length_cons, List.length_nil, atI_0, atI_1, atI_2, atI_3, atI_4, ixN_5_0, ixN_5_1, ixN_5_2, ixN_5_3, ixN_5_4, D.bl.injEq, D.int.injEq, D.lst.injEq, D.tup.injEq, D.str.injEq, Sl.own.injEq, Sl.val.injEq, Option.some.injEq, exists_eq_left', exists_eq_left, exists_eq', exists_eq, or_true, true_or, or_false, false_or, CMul, CPow, natAbs_10, natAbs_2, Int.cast_ofNat_Int, Nat.reducePow, exists_and_left, exists_const, and_assoc, true_and, and_true, and_self, false_and, and_false, if_true, if_false, ite_true, ite_false, reduceCtorEq, decide_true, decide_false, decide_eq_true_eq, decide_eq_false_iff_not, Bool.not_true, Bool.not_false, Bool.false_eq_true, List.replicate_zero, List.replicate_succ, List.map_cons, List.map_nil, List.nil_append, List.cons_append, Nat.reduceSub, Nat.reduceAdd, Nat.reduceLeDiff, Nat.reduceLT, Int.reduceLT, Int.reduceLE, Int.reduceAdd, Int.reduceSub, Int.reduceMul, Int.reduceNeg, Int.reduceMod, Int.reduceDiv, Int.reducePow, Int.reduceToNat, okD_int, okD_bl, okD_lst, okD_tup, okD_non, okL_nil, okL_cons, okD_str, okL_int, eqD_int, eqD_bl, eqD_str, eqD_tup, eqD_lst, eqL_cons, eqL_nil, eqL_cn, eqL_nc, eqL_int, Bool.and_eq_true, Bool.or_eq_true, Bool.not_eq_true', Bool.and_false, Bool.false_and, Bool.or_false, Bool.false_or, Bool.or_true, Bool.true_or, Bool.and_true, Bool.true_and, Bool.and_self])
  refine ⟨by decide, ?_⟩
  rw [rangeD_map]
  refine lc_map (fun _ => .bl true) (fun x hx K' hk => ?_) fun a => ?_
  · obtain ⟨i, _, rfl⟩ := List.mem_map.mp hx
    (try simp only [wSeq, wAsg, wOwn, wF, wLc, wSkip, wBrk, wCnt, wRet, wRetF, wRetN, wDrop, wIfS, wPar, wFor, wWh, wV, wApp, wExt, wSetIx, wAug, wVal, wLook, wC, wOp, wTst, wChain, wAnd, wOr, wNot, wAndV, wOrV, wNotV, wIf, wNil, wCons, wTup, wLst, wCall, wCB, wIsT, wiR1, wiR2, wiSq, wiEn, wiZip, gN, gT1, gT2, gT3, gT4, gT5, gT6, gT7, wYes, gAdd, DV.gSub, gMul, gMod, gDiv, gPow, gLt, gLe, gGt, gGe, gCmp, gEq, gNe, gIs, gIsN, isNon, gIn, gNotIn, gIx, gSlc, wSlc, wNoP, wPart, gLen, gAbs, gInt, gMin2, gMax2, gAll, gAny, gSum, gTuple, wNeg, wRev, itemsOf, D.isTy, D.isHand, Sl.toD, big_0, big_1, big_2, big_3, big_4, big_5, big_6, big_7, big_8, big_9, big_10, big_11, big_12, draw_iff, own_ex, val_ex, wipeE, restE, Sl.keep, Option.getD_some, get_z, get_s, set_z, set_s, List.length_cons, List.length_nil, atI_0, atI_1, atI_2, atI_3, atI_4, ixN_5_0, ixN_5_1, ixN_5_2, ixN_5_3, ixN_5_4, D.bl.injEq, D.int.injEq, D.lst.injEq, D.tup.injEq, D.str.injEq, Sl.own.injEq, Sl.val.injEq, Option.some.injEq, exists_eq_left', exists_eq_left, exists_eq', exists_eq, or_true, true_or, or_false, false_or, CMul, CPow, natAbs_10, natAbs_2, Int.cast_ofNat_Int, Nat.reducePow, exists_and_left, exists_const, and_assoc, true_and, and_true, and_self, false_and, and_false, if_true, if_false, ite_true, ite_false, reduceCtorEq, decide_true, decide_false, decide_eq_true_eq, decide_eq_false_iff_not, Bool.not_true, Bool.not_false, Bool.false_eq_true, List.replicate_zero, List.replicate_succ, List.map_cons, List.map_nil, List.nil_append, List.cons_append, Nat.reduceSub, Nat.reduceAdd, Nat.reduceLeDiff, Nat.reduceLT, Int.reduceLT, Int.reduceLE, Int.reduceAdd, Int.reduceSub, Int.reduceMul, Int.reduceNeg, Int.reduceMod, Int.reduceDiv, Int.reducePow, Int.reduceToNat, okD_int, okD_bl, okD_lst, okD_tup, okD_non, okL_nil, okL_cons, okD_str, okL_int, eqD_int, eqD_bl, eqD_str, eqD_tup, eqD_lst, eqL_cons, eqL_nil, eqL_cn, eqL_nc, eqL_int, Bool.and_eq_true, Bool.or_eq_true, Bool.not_eq_true', Bool.and_false, Bool.false_and, Bool.or_false, Bool.false_or, Bool.or_true, Bool.true_or, Bool.and_true, Bool.true_and, Bool.and_self])
    exact sp_is_right hk
  · have tb : toBs (((rangeI 0 6).map D.int).map fun _ => .bl true) = some ((rangeI 0 6).map fun _ => true) := by
      rw [← toBs_map, List.map_map, List.map_map]; rfl
    have al : ((rangeI 0 6).map fun _ => true).all id = true := by simp
    simp only [wSeq, wAsg, wOwn, wF, wLc, wSkip, wBrk, wCnt, wRet, wRetF, wRetN, wDrop, wIfS, wPar, wFor, wWh, wV, wApp, wExt, wSetIx, wAug, wVal, wLook, wC, wOp, wTst, wChain, wAnd, wOr, wNot, wAndV, wOrV, wNotV, wIf, wNil, wCons, wTup, wLst, wCall, wCB, wIsT, wiR1, wiR2, wiSq, wiEn, wiZip, gN, gT1, gT2, gT3, gT4, gT5, gT6, gT7, wYes, gAdd, DV.gSub, gMul, gMod, gDiv, gPow, gLt, gLe, gGt, gGe, gCmp, gEq, gNe, gIs, gIsN, isNon, gIn, gNotIn, gIx, gSlc, wSlc, wNoP, wPart, gLen, gAbs, gInt, gMin2, gMax2, gAll, gAny, gSum, gTuple, wNeg, wRev, itemsOf, D.isTy, D.isHand, Sl.toD, big_0, big_1, big_2, big_3, big_4, big_5, big_6, big_7, big_8, big_9, big_10, big_11, big_12, draw_iff, own_ex, val_ex, wipeE, restE, Sl.keep, Option.getD_some, get_z, get_s, set_z, set_s, List.length_cons, List.length_nil, atI_0, atI_1, atI_2, atI_3, atI_4, ixN_5_0, ixN_5_1, ixN_5_2, ixN_5_3, ixN_5_4, D.bl.injEq, D.int.injEq, D.lst.injEq, D.tup.injEq, D.str.injEq, Sl.own.injEq, Sl.val.injEq, Option.some.injEq, exists_eq_left', exists_eq_left, exists_eq', exists_eq, or_true, true_or, or_false, false_or, CMul, CPow, natAbs_10, natAbs_2, Int.cast_ofNat_Int, Nat.reducePow, exists_and_left, exists_const, and_assoc, true_and, and_true, and_self, false_and, and_false, if_true, if_false, ite_true, ite_false, reduceCtorEq, decide_true, decide_false, decide_eq_true_eq, decide_eq_false_iff_not, Bool.not_true, Bool.not_false, Bool.false_eq_true, List.replicate_zero, List.replicate_succ, List.map_cons, List.map_nil, List.nil_append, List.cons_append, Nat.reduceSub, Nat.reduceAdd, Nat.reduceLeDiff, Nat.reduceLT, Int.reduceLT, Int.reduceLE, Int.reduceAdd, Int.reduceSub, Int.reduceMul, Int.reduceNeg, Int.reduceMod, Int.reduceDiv, Int.reducePow, Int.reduceToNat, okD_int, okD_bl, okD_lst, okD_tup, okD_non, okL_nil, okL_cons, okD_str, okL_int, eqD_int, eqD_bl, eqD_str, eqD_tup, eqD_lst, eqL_cons, eqL_nil, eqL_cn, eqL_nc, eqL_int, Bool.and_eq_true, Bool.or_eq_true, Bool.not_eq_true', Bool.and_false, Bool.false_and, Bool.or_false, Bool.false_or, Bool.or_true, Bool.true_or, Bool.and_true, Bool.true_and, Bool.and_self, tb, al]
end Law

set_option Elab.async false
set_option linter.all false
set_option maxRecDepth 100000
namespace Law
open PySem PySem.Spec PyProof.Rows L2 DV
/-- what the top has written, for law -/
theorem all_mk {l : PySem.W.OpenLaw} {w : World} {K : PySem.W.Frag} {h : Heap} {mg : Str → Option Value} {fa f1 f2 f3 f4 f5 f6 f7 f8 f9 f10 f11 f12 f13 f14 f15 f16 f17 f18 f19 : Addr} (X : K.In h) (hG : h.Ns mainGlobals mg) (hfa : mg "law" = some (.ref fa))
    {od1 an1 od2 an2 od3 an3 od4 an4 od5 an5 od6 an6 od7 an7 od8 an8 od9 an9 od10 an10 od11 an11 od12 an12 od13 an13 od14 an14 od15 an15 od16 an16 od17 an17 od18 an18 od19 an19 : Option Addr} {sl1 sl2 sl3 sl4 sl5 sl6 sl7 sl8 sl9 sl10 sl11 sl12 sl13 sl14 sl15 sl16 sl17 sl18 sl19 : Array (Option Value)} {oc1 kV1 dc1 pm1 cd1 ct1 oc2 kV2 dc2 pm2 cd2 ct2 oc3 kV3 dc3 pm3 cd3 ct3 oc4 kV4 dc4 pm4 cd4 ct4 oc5 kV5 dc5 pm5 cd5 ct5 oc6 kV6 dc6 pm6 cd6 ct6 oc7 kV7 dc7 pm7 cd7 ct7 oc8 kV8 dc8 pm8 cd8 ct8 oc9 kV9 dc9 pm9 cd9 ct9 oc10 kV10 dc10 pm10 cd10 ct10 oc11 kV11 dc11 pm11 cd11 ct11 oc12 kV12 dc12 pm12 cd12 ct12 oc13 kV13 dc13 pm13 cd13 ct13 oc14 kV14 dc14 pm14 cd14 ct14 oc15 kV15 dc15 pm15 cd15 ct15 oc16 kV16 dc16 pm16 cd16 ct16 oc17 kV17 dc17 pm17 cd17 ct17 oc18 kV18 dc18 pm18 cd18 ct18 oc19 kV19 dc19 pm19 cd19 ct19 : Value} {tk_MOST_BY tk_MOST_LONG : Tok}
    (a1 : PySem.W.nsIn K mainGlobals "_law_hand" = some (some (.ref f1))) (l1 : K.lookup f1 = some ⟨oc1, od1, .func (PySem.W.fnOf "_law_hand" "_law_hand" (defArgs s__law_hand) (defBody s__law_hand) (defScope s__law_hand) .none kV1 dc1 pm1 an1 cd1 ct1), sl1⟩) (c1 : PySem.W.codeIn K cd1 "_law_hand" = true) (k1 : PySem.W.keepIn K (.ref f1) = true)
    (a2 : PySem.W.nsIn K mainGlobals "power_rest" = some (some (.ref f2))) (l2 : K.lookup f2 = some ⟨oc2, od2, .func (PySem.W.fnOf "power_rest" "power_rest" (defArgs s_power_rest) (defBody s_power_rest) (defScope s_power_rest) .none kV2 dc2 pm2 an2 cd2 ct2), sl2⟩) (c2 : PySem.W.codeIn K cd2 "power_rest" = true) (k2 : PySem.W.keepIn K (.ref f2) = true)
    (a3 : PySem.W.nsIn K mainGlobals "is_integer" = some (some (.ref f3))) (l3 : K.lookup f3 = some ⟨oc3, od3, .func (PySem.W.fnOf "is_integer" "is_integer" (defArgs s_is_integer) (defBody s_is_integer) (defScope s_is_integer) .none kV3 dc3 pm3 an3 cd3 ct3), sl3⟩) (c3 : PySem.W.codeIn K cd3 "is_integer" = true) (k3 : PySem.W.keepIn K (.ref f3) = true)
    (a4 : PySem.W.nsIn K mainGlobals "is_within" = some (some (.ref f4))) (l4 : K.lookup f4 = some ⟨oc4, od4, .func (PySem.W.fnOf "is_within" "is_within" (defArgs s_is_within) (defBody s_is_within) (defScope s_is_within) .none kV4 dc4 pm4 an4 cd4 ct4), sl4⟩) (c4 : PySem.W.codeIn K cd4 "is_within" = true) (k4 : PySem.W.keepIn K (.ref f4) = true)
    (a5 : PySem.W.nsIn K mainGlobals "check_number" = some (some (.ref f5))) (l5 : K.lookup f5 = some ⟨oc5, od5, .func (PySem.W.fnOf "check_number" "check_number" (defArgs s_check_number) (defBody s_check_number) (defScope s_check_number) .none kV5 dc5 pm5 an5 cd5 ct5), sl5⟩) (c5 : PySem.W.codeIn K cd5 "check_number" = true) (k5 : PySem.W.keepIn K (.ref f5) = true)
    (a6 : PySem.W.nsIn K mainGlobals "check_fit" = some (some (.ref f6))) (l6 : K.lookup f6 = some ⟨oc6, od6, .func (PySem.W.fnOf "check_fit" "check_fit" (defArgs s_check_fit) (defBody s_check_fit) (defScope s_check_fit) .none kV6 dc6 pm6 an6 cd6 ct6), sl6⟩) (c6 : PySem.W.codeIn K cd6 "check_fit" = true) (k6 : PySem.W.keepIn K (.ref f6) = true)
    (a7 : PySem.W.nsIn K mainGlobals "unseen_one" = some (some (.ref f7))) (l7 : K.lookup f7 = some ⟨oc7, od7, .func (PySem.W.fnOf "unseen_one" "unseen_one" (defArgs s_unseen_one) (defBody s_unseen_one) (defScope s_unseen_one) .none kV7 dc7 pm7 an7 cd7 ct7), sl7⟩) (c7 : PySem.W.codeIn K cd7 "unseen_one" = true) (k7 : PySem.W.keepIn K (.ref f7) = true)
    (a8 : PySem.W.nsIn K mainGlobals "_law_number" = some (some (.ref f8))) (l8 : K.lookup f8 = some ⟨oc8, od8, .func (PySem.W.fnOf "_law_number" "_law_number" (defArgs s__law_number) (defBody s__law_number) (defScope s__law_number) .none kV8 dc8 pm8 an8 cd8 ct8), sl8⟩) (c8 : PySem.W.codeIn K cd8 "_law_number" = true) (k8 : PySem.W.keepIn K (.ref f8) = true)
    (a9 : PySem.W.nsIn K mainGlobals "_law_draw" = some (some (.ref f9))) (l9 : K.lookup f9 = some ⟨oc9, od9, .func (PySem.W.fnOf "_law_draw" "_law_draw" (defArgs s__law_draw) (defBody s__law_draw) (defScope s__law_draw) .none kV9 dc9 pm9 an9 cd9 ct9), sl9⟩) (c9 : PySem.W.codeIn K cd9 "_law_draw" = true) (k9 : PySem.W.keepIn K (.ref f9) = true)
    (a10 : PySem.W.nsIn K mainGlobals "_law_is" = some (some (.ref f10))) (l10 : K.lookup f10 = some ⟨oc10, od10, .func (PySem.W.fnOf "_law_is" "_law_is" (defArgs s__law_is) (defBody s__law_is) (defScope s__law_is) .none kV10 dc10 pm10 an10 cd10 ct10), sl10⟩) (c10 : PySem.W.codeIn K cd10 "_law_is" = true) (k10 : PySem.W.keepIn K (.ref f10) = true)
    (a11 : PySem.W.nsIn K mainGlobals "_law_own_part" = some (some (.ref f11))) (l11 : K.lookup f11 = some ⟨oc11, od11, .func (PySem.W.fnOf "_law_own_part" "_law_own_part" (defArgs s__law_own_part) (defBody s__law_own_part) (defScope s__law_own_part) .none kV11 dc11 pm11 an11 cd11 ct11), sl11⟩) (c11 : PySem.W.codeIn K cd11 "_law_own_part" = true) (k11 : PySem.W.keepIn K (.ref f11) = true)
    (a12 : PySem.W.nsIn K mainGlobals "_law_power" = some (some (.ref f12))) (l12 : K.lookup f12 = some ⟨oc12, od12, .func (PySem.W.fnOf "_law_power" "_law_power" (defArgs s__law_power) (defBody s__law_power) (defScope s__law_power) .none kV12 dc12 pm12 an12 cd12 ct12), sl12⟩) (c12 : PySem.W.codeIn K cd12 "_law_power" = true) (k12 : PySem.W.keepIn K (.ref f12) = true)
    (a13 : PySem.W.nsIn K mainGlobals "power" = some (some (.ref f13))) (l13 : K.lookup f13 = some ⟨oc13, od13, .func (PySem.W.fnOf "power" "power" (defArgs s_power) (defBody s_power) (defScope s_power) .none kV13 dc13 pm13 an13 cd13 ct13), sl13⟩) (c13 : PySem.W.codeIn K cd13 "power" = true) (k13 : PySem.W.keepIn K (.ref f13) = true)
    (a14 : PySem.W.nsIn K mainGlobals "common" = some (some (.ref f14))) (l14 : K.lookup f14 = some ⟨oc14, od14, .func (PySem.W.fnOf "common" "common" (defArgs s_common) (defBody s_common) (defScope s_common) .none kV14 dc14 pm14 an14 cd14 ct14), sl14⟩) (c14 : PySem.W.codeIn K cd14 "common" = true) (k14 : PySem.W.keepIn K (.ref f14) = true)
    (a15 : PySem.W.nsIn K mainGlobals "stretch_seen" = some (some (.ref f15))) (l15 : K.lookup f15 = some ⟨oc15, od15, .func (PySem.W.fnOf "stretch_seen" "stretch_seen" (defArgs s_stretch_seen) (defBody s_stretch_seen) (defScope s_stretch_seen) .none kV15 dc15 pm15 an15 cd15 ct15), sl15⟩) (c15 : PySem.W.codeIn K cd15 "stretch_seen" = true) (k15 : PySem.W.keepIn K (.ref f15) = true)
    (a16 : PySem.W.nsIn K mainGlobals "_law_two" = some (some (.ref f16))) (l16 : K.lookup f16 = some ⟨oc16, od16, .func (PySem.W.fnOf "_law_two" "_law_two" (defArgs s__law_two) (defBody s__law_two) (defScope s__law_two) .none kV16 dc16 pm16 an16 cd16 ct16), sl16⟩) (c16 : PySem.W.codeIn K cd16 "_law_two" = true) (k16 : PySem.W.keepIn K (.ref f16) = true)
    (a17 : PySem.W.nsIn K mainGlobals "unseen_two" = some (some (.ref f17))) (l17 : K.lookup f17 = some ⟨oc17, od17, .func (PySem.W.fnOf "unseen_two" "unseen_two" (defArgs s_unseen_two) (defBody s_unseen_two) (defScope s_unseen_two) .none kV17 dc17 pm17 an17 cd17 ct17), sl17⟩) (c17 : PySem.W.codeIn K cd17 "unseen_two" = true) (k17 : PySem.W.keepIn K (.ref f17) = true)
    (a18 : PySem.W.nsIn K mainGlobals "_law_is_right" = some (some (.ref f18))) (l18 : K.lookup f18 = some ⟨oc18, od18, .func (PySem.W.fnOf "_law_is_right" "_law_is_right" (defArgs s__law_is_right) (defBody s__law_is_right) (defScope s__law_is_right) .none kV18 dc18 pm18 an18 cd18 ct18), sl18⟩) (c18 : PySem.W.codeIn K cd18 "_law_is_right" = true) (k18 : PySem.W.keepIn K (.ref f18) = true)
    (a19 : PySem.W.nsIn K mainGlobals "law" = some (some (.ref f19))) (l19 : K.lookup f19 = some ⟨oc19, od19, .func (PySem.W.fnOf "law" "law" (defArgs s_law) (defBody s_law) (defScope s_law) .none kV19 dc19 pm19 an19 cd19 ct19), sl19⟩) (c19 : PySem.W.codeIn K cd19 "law" = true) (k19 : PySem.W.keepIn K (.ref f19) = true)
    (z_abs : PySem.W.nsIn K mainGlobals "abs" = some none)
    (z_all : PySem.W.nsIn K mainGlobals "all" = some none)
    (z_bool : PySem.W.nsIn K mainGlobals "bool" = some none)
    (z_dict : PySem.W.nsIn K mainGlobals "dict" = some none)
    (z_int : PySem.W.nsIn K mainGlobals "int" = some none)
    (z_isinstance : PySem.W.nsIn K mainGlobals "isinstance" = some none)
    (z_len : PySem.W.nsIn K mainGlobals "len" = some none)
    (z_list : PySem.W.nsIn K mainGlobals "list" = some none)
    (z_range : PySem.W.nsIn K mainGlobals "range" = some none)
    (z_str : PySem.W.nsIn K mainGlobals "str" = some none)
    (z_tuple : PySem.W.nsIn K mainGlobals "tuple" = some none)
    (z_zip : PySem.W.nsIn K mainGlobals "zip" = some none)
    (q_MOST_BY : PySem.W.nsIn K mainGlobals "MOST_BY" = some (some (.int 200 tk_MOST_BY)))
    (q_MOST_LONG : PySem.W.nsIn K mainGlobals "MOST_LONG" = some (some (.int 24 tk_MOST_LONG)))
    : ∃ fd : FuncData, (∀ (s : Shared) (v : Value), BindsTo s fd ⟨[v], []⟩ [("script", v)]) ∧ ∀ base : Heap, K.In base → base.Ns mainGlobals mg → FnOk l.prog w K mg base (L2.CX l.prog w) 7 fa fd ["script"] (lawSp K) := by
  have e := hfa.symm.trans (PySem.W.mg_of X hG a19)
  cases e
  have T : Txt mg := ⟨PySem.W.mg_none_of X hG z_abs, PySem.W.mg_none_of X hG z_all, PySem.W.mg_none_of X hG z_bool, PySem.W.mg_none_of X hG z_dict, PySem.W.mg_none_of X hG z_int, PySem.W.mg_none_of X hG z_isinstance, PySem.W.mg_none_of X hG z_len, PySem.W.mg_none_of X hG z_list, PySem.W.mg_none_of X hG z_range, PySem.W.mg_none_of X hG z_str, PySem.W.mg_none_of X hG z_tuple, PySem.W.mg_none_of X hG z_zip, ⟨_, PySem.W.mg_of X hG q_MOST_BY⟩, ⟨_, PySem.W.mg_of X hG q_MOST_LONG⟩⟩
  have F1 := fun_mk (st := s__law_hand) l1 c1 k1
  have b1 := F1.binds (ps := ["script"]) fun _ _ _ _ _ _ us hl => match us, hl with | [_], _ => rfl
  have F2 := fun_mk (st := s_power_rest) l2 c2 k2
  have b2 := F2.binds (ps := ["base", "exponent", "by"]) fun _ _ _ _ _ _ us hl => match us, hl with | [_, _, _], _ => rfl
  have F3 := fun_mk (st := s_is_integer) l3 c3 k3
  have b3 := F3.binds (ps := ["thing"]) fun _ _ _ _ _ _ us hl => match us, hl with | [_], _ => rfl
  have F4 := fun_mk (st := s_is_within) l4 c4 k4
  have b4 := F4.binds (ps := ["thing", "least", "most"]) fun _ _ _ _ _ _ us hl => match us, hl with | [_, _, _], _ => rfl
  have F5 := fun_mk (st := s_check_number) l5 c5 k5
  have b5 := F5.binds (ps := ["thing", "least", "most"]) fun _ _ _ _ _ _ us hl => match us, hl with | [_, _, _], _ => rfl
  have F6 := fun_mk (st := s_check_fit) l6 c6 k6
  have b6 := F6.binds (ps := ["base", "by"]) fun _ _ _ _ _ _ us hl => match us, hl with | [_, _], _ => rfl
  have F7 := fun_mk (st := s_unseen_one) l7 c7 k7
  have b7 := F7.binds (ps := ["base", "by", "long"]) fun _ _ _ _ _ _ us hl => match us, hl with | [_, _, _], _ => rfl
  have F8 := fun_mk (st := s__law_number) l8 c8 k8
  have b8 := F8.binds (ps := ["base", "word"]) fun _ _ _ _ _ _ us hl => match us, hl with | [_, _], _ => rfl
  have F9 := fun_mk (st := s__law_draw) l9 c9 k9
  have b9 := F9.binds (ps := ["hand", "limit"]) fun _ _ _ _ _ _ us hl => match us, hl with | [_, _], _ => rfl
  have F10 := fun_mk (st := s__law_is) l10 c10 k10
  have b10 := F10.binds (ps := ["thing", "due"]) fun _ _ _ _ _ _ us hl => match us, hl with | [_, _], _ => rfl
  have F11 := fun_mk (st := s__law_own_part) l11 c11 k11
  have b11 := F11.binds (ps := ["base", "by"]) fun _ _ _ _ _ _ us hl => match us, hl with | [_, _], _ => rfl
  have F12 := fun_mk (st := s__law_power) l12 c12 k12
  have b12 := F12.binds (ps := ["base", "many"]) fun _ _ _ _ _ _ us hl => match us, hl with | [_, _], _ => rfl
  have F13 := fun_mk (st := s_power) l13 c13 k13
  have b13 := F13.binds (ps := ["base", "exponent"]) fun _ _ _ _ _ _ us hl => match us, hl with | [_, _], _ => rfl
  have F14 := fun_mk (st := s_common) l14 c14 k14
  have b14 := F14.binds (ps := ["one", "other"]) fun _ _ _ _ _ _ us hl => match us, hl with | [_, _], _ => rfl
  have F15 := fun_mk (st := s_stretch_seen) l15 c15 k15
  have b15 := F15.binds (ps := ["base", "by", "wide"]) fun _ _ _ _ _ _ us hl => match us, hl with | [_, _, _], _ => rfl
  have F16 := fun_mk (st := s__law_two) l16 c16 k16
  have b16 := F16.binds (ps := ["base", "by", "long_now"]) fun _ _ _ _ _ _ us hl => match us, hl with | [_, _, _], _ => rfl
  have F17 := fun_mk (st := s_unseen_two) l17 c17 k17
  have b17 := F17.binds (ps := ["base", "by", "long"]) fun _ _ _ _ _ _ us hl => match us, hl with | [_, _, _], _ => rfl
  have F18 := fun_mk (st := s__law_is_right) l18 c18 k18
  have b18 := F18.binds (ps := ["hand"]) fun _ _ _ _ _ _ us hl => match us, hl with | [_], _ => rfl
  have F19 := fun_mk (st := s_law) l19 c19 k19
  have b19 := F19.binds (ps := ["script"]) fun _ _ _ _ _ _ us hl => match us, hl with | [_], _ => rfl
  refine ⟨PySem.W.fnOf "law" "law" (defArgs s_law) (defBody s_law) (defScope s_law) .none kV19 dc19 pm19 an19 cd19 ct19, fun s v => .of_eq rfl, fun base _ _ => ?_⟩
  have hO : ∀ c C, (Pg.mk K fun _ => none).CT c = some C → ObjCls K C := fun _ _ h => by cases h
  have O_1 := ok__law_hand (P := l.prog) (w := w) (G := ⟨K, fun _ => none⟩) (base := base) T hO F1 hb_hand
  have C_power_rest : Cal l.prog w ⟨K, fun _ => none⟩ mg base "power_rest" 1 3 T_power_rest := ⟨f2, _, ["base", "exponent", "by"], PySem.W.mg_of X hG a2, k2, b2, ok_power_rest (P := l.prog) (w := w) (G := ⟨K, fun _ => none⟩) (base := base) T hO F2⟩
  have C_is_integer : Cal l.prog w ⟨K, fun _ => none⟩ mg base "is_integer" 1 1 T_is_integer := ⟨f3, _, ["thing"], PySem.W.mg_of X hG a3, k3, b3, ok_is_integer (P := l.prog) (w := w) (G := ⟨K, fun _ => none⟩) (base := base) T hO F3⟩
  have C_is_within : Cal l.prog w ⟨K, fun _ => none⟩ mg base "is_within" 2 3 T_is_within := ⟨f4, _, ["thing", "least", "most"], PySem.W.mg_of X hG a4, k4, b4, ok_is_within (P := l.prog) (w := w) (G := ⟨K, fun _ => none⟩) (base := base) T hO C_is_integer F4⟩
  have C_check_number : Cal l.prog w ⟨K, fun _ => none⟩ mg base "check_number" 3 3 T_check_number := ⟨f5, _, ["thing", "least", "most"], PySem.W.mg_of X hG a5, k5, b5, ok_check_number (P := l.prog) (w := w) (G := ⟨K, fun _ => none⟩) (base := base) T hO C_is_within F5⟩
  have C_check_fit : Cal l.prog w ⟨K, fun _ => none⟩ mg base "check_fit" 4 2 T_check_fit := ⟨f6, _, ["base", "by"], PySem.W.mg_of X hG a6, k6, b6, ok_check_fit (P := l.prog) (w := w) (G := ⟨K, fun _ => none⟩) (base := base) T hO C_check_number F6⟩
  have C_unseen_one : Cal l.prog w ⟨K, fun _ => none⟩ mg base "unseen_one" 5 3 T_unseen_one := ⟨f7, _, ["base", "by", "long"], PySem.W.mg_of X hG a7, k7, b7, ok_unseen_one (P := l.prog) (w := w) (G := ⟨K, fun _ => none⟩) (base := base) T hO C_power_rest C_check_number C_check_fit F7⟩
  have C__law_number : Cal l.prog w ⟨K, fun _ => none⟩ mg base "_law_number" 1 2 T__law_number := ⟨f8, _, ["base", "word"], PySem.W.mg_of X hG a8, k8, b8, ok__law_number (P := l.prog) (w := w) (G := ⟨K, fun _ => none⟩) (base := base) T hO F8⟩
  have C__law_draw : Cal l.prog w ⟨K, fun _ => none⟩ mg base "_law_draw" 1 2 wDraw := ⟨f9, _, ["hand", "limit"], PySem.W.mg_of X hG a9, k9, b9, ok__law_draw (P := l.prog) (w := w) (G := ⟨K, fun _ => none⟩) (base := base) T hO F9 hb_draw⟩
  have C__law_is : Cal l.prog w ⟨K, fun _ => none⟩ mg base "_law_is" 4 2 (T__law_is 3) := ⟨f10, _, ["thing", "due"], PySem.W.mg_of X hG a10, k10, b10, ok__law_is (P := l.prog) (w := w) (G := ⟨K, fun _ => none⟩) (base := base) T hO F10 (PySem.W.mg_of X hG a10) b10 3⟩
  have C__law_own_part : Cal l.prog w ⟨K, fun _ => none⟩ mg base "_law_own_part" 1 2 T__law_own_part := ⟨f11, _, ["base", "by"], PySem.W.mg_of X hG a11, k11, b11, ok__law_own_part (P := l.prog) (w := w) (G := ⟨K, fun _ => none⟩) (base := base) T hO F11⟩
  have C__law_power : Cal l.prog w ⟨K, fun _ => none⟩ mg base "_law_power" 1 2 T__law_power := ⟨f12, _, ["base", "many"], PySem.W.mg_of X hG a12, k12, b12, ok__law_power (P := l.prog) (w := w) (G := ⟨K, fun _ => none⟩) (base := base) T hO F12⟩
  have C_power : Cal l.prog w ⟨K, fun _ => none⟩ mg base "power" 1 2 T_power := ⟨f13, _, ["base", "exponent"], PySem.W.mg_of X hG a13, k13, b13, ok_power (P := l.prog) (w := w) (G := ⟨K, fun _ => none⟩) (base := base) T hO F13⟩
  have C_common : Cal l.prog w ⟨K, fun _ => none⟩ mg base "common" 1 2 T_common := ⟨f14, _, ["one", "other"], PySem.W.mg_of X hG a14, k14, b14, ok_common (P := l.prog) (w := w) (G := ⟨K, fun _ => none⟩) (base := base) T hO F14⟩
  have C_stretch_seen : Cal l.prog w ⟨K, fun _ => none⟩ mg base "stretch_seen" 5 3 T_stretch_seen := ⟨f15, _, ["base", "by", "wide"], PySem.W.mg_of X hG a15, k15, b15, ok_stretch_seen (P := l.prog) (w := w) (G := ⟨K, fun _ => none⟩) (base := base) T hO C_power C_common C_check_number C_check_fit F15⟩
  have C__law_two : Cal l.prog w ⟨K, fun _ => none⟩ mg base "_law_two" 2 3 T__law_two := ⟨f16, _, ["base", "by", "long_now"], PySem.W.mg_of X hG a16, k16, b16, ok__law_two (P := l.prog) (w := w) (G := ⟨K, fun _ => none⟩) (base := base) T hO C__law_power F16⟩
  have C_unseen_two : Cal l.prog w ⟨K, fun _ => none⟩ mg base "unseen_two" 5 3 T_unseen_two := ⟨f17, _, ["base", "by", "long"], PySem.W.mg_of X hG a17, k17, b17, ok_unseen_two (P := l.prog) (w := w) (G := ⟨K, fun _ => none⟩) (base := base) T hO C_power_rest C_check_number C_check_fit F17⟩
  have C__law_is_right : Cal l.prog w ⟨K, fun _ => none⟩ mg base "_law_is_right" 6 1 T__law_is_right := ⟨f18, _, ["hand"], PySem.W.mg_of X hG a18, k18, b18, ok__law_is_right (P := l.prog) (w := w) (G := ⟨K, fun _ => none⟩) (base := base) T hO C_unseen_one C__law_number C__law_draw C__law_is C__law_own_part C__law_power C_stretch_seen C__law_two C_unseen_two F18⟩
  exact ok_law (P := l.prog) (w := w) (G := ⟨K, fun _ => none⟩) (base := base) T hO C__law_is_right C_unseen_two C_stretch_seen O_1 (PySem.W.mg_of X hG a1) k1 b1 F19 hb_law
theorem walk {l : PySem.W.OpenLaw} {q : Program} {loose : List Str} {XP : (Str → Option Value) → Heap → Prop} {YP : World → Heap → Prop} {d : DefRec} {K : Params → PySem.W.Frag} (hn : l.most = some 63) (hdf : d.params.defaults = []) (hY : ∀ (w : World) (h : Heap), YP w h → (K w.params).In h)
    (F : ∀ (w : World) (mg : Str → Option Value) (fa : Addr) (h : Heap), (K w.params).In h → h.Ns mainGlobals mg → mg d.name = some (.ref fa) →
      ∃ fd : FuncData, (∀ (s : Shared) (u : Value), BindsTo s fd ⟨[u], []⟩ [("script", u)]) ∧ ∀ base : Heap, (K w.params).In base → base.Ns mainGlobals mg → FnOk l.prog w (K w.params) mg base (L2.CX l.prog w) 7 fa fd ["script"] (lawSp (K w.params))) : PySem.W.WalkO q loose XP YP l.row.toRowW d [] (fun f vs => PySem.call f vs) :=
  L2.walk_of (n := 63) (k := 7) (x := "script") (CX := fun w => L2.CX l.prog w) (sp := fun w => lawSp (K w.params)) hn (by decide) hdf ⟨rfl, by decide, by decide⟩ hY F (fun _ _ a ns hl _ hS => ⟨a, ns, rfl, hS, hl, fun _ => rfl⟩) fun _ _ _ _ _ z => by obtain ⟨_, _, _, _, _, _, _, _, _, _, _, _, z⟩ := z; exact z.elim
end Law
open PySem PySem.W PyProof.Rows
set_option maxRecDepth 100000 in
set_option maxHeartbeats 0 in
theorem PySem.Challenge.cw_checksigns_k37_whole_two_slips_and_stret_holds : PySem.Challenge.rw_checksigns_k37_whole_two_slips_and_stret.Holds := by
  w_on; o_law; k_head; (case hw => w_witness2)
  k_fill
  refine Law.walk (l := PySem.Challenge.rw_checksigns_k37_whole_two_slips_and_stret) rfl rfl (fun w h Y => PySem.W.kIn_of Y) ?F
  case F =>
    intro w mg fa h KX G hmg
    refine' Law.all_mk KX G hmg ?a1 ?l1 ?c1 ?k1 ?a2 ?l2 ?c2 ?k2 ?a3 ?l3 ?c3 ?k3 ?a4 ?l4 ?c4 ?k4 ?a5 ?l5 ?c5 ?k5 ?a6 ?l6 ?c6 ?k6 ?a7 ?l7 ?c7 ?k7 ?a8 ?l8 ?c8 ?k8 ?a9 ?l9 ?c9 ?k9 ?a10 ?l10 ?c10 ?k10 ?a11 ?l11 ?c11 ?k11 ?a12 ?l12 ?c12 ?k12 ?a13 ?l13 ?c13 ?k13 ?a14 ?l14 ?c14 ?k14 ?a15 ?l15 ?c15 ?k15 ?a16 ?l16 ?c16 ?k16 ?a17 ?l17 ?c17 ?k17 ?a18 ?l18 ?c18 ?k18 ?a19 ?l19 ?c19 ?k19 ?z_abs ?z_all ?z_bool ?z_dict ?z_int ?z_isinstance ?z_len ?z_list ?z_range ?z_str ?z_tuple ?z_zip ?q_MOST_BY ?q_MOST_LONG
    (case a1 => k_is)
    (case l1 => k_is)
    (case c1 => k_is)
    (case k1 => k_is)
    (case a2 => k_is)
    (case l2 => k_is)
    (case c2 => k_is)
    (case k2 => k_is)
    (case a3 => k_is)
    (case l3 => k_is)
    (case c3 => k_is)
    (case k3 => k_is)
    (case a4 => k_is)
    (case l4 => k_is)
    (case c4 => k_is)
    (case k4 => k_is)
    (case a5 => k_is)
    (case l5 => k_is)
    (case c5 => k_is)
    (case k5 => k_is)
    (case a6 => k_is)
    (case l6 => k_is)
    (case c6 => k_is)
    (case k6 => k_is)
    (case a7 => k_is)
    (case l7 => k_is)
    (case c7 => k_is)
    (case k7 => k_is)
    (case a8 => k_is)
    (case l8 => k_is)
    (case c8 => k_is)
    (case k8 => k_is)
    (case a9 => k_is)
    (case l9 => k_is)
    (case c9 => k_is)
    (case k9 => k_is)
    (case a10 => k_is)
    (case l10 => k_is)
    (case c10 => k_is)
    (case k10 => k_is)
    (case a11 => k_is)
    (case l11 => k_is)
    (case c11 => k_is)
    (case k11 => k_is)
    (case a12 => k_is)
    (case l12 => k_is)
    (case c12 => k_is)
    (case k12 => k_is)
    (case a13 => k_is)
    (case l13 => k_is)
    (case c13 => k_is)
    (case k13 => k_is)
    (case a14 => k_is)
    (case l14 => k_is)
    (case c14 => k_is)
    (case k14 => k_is)
    (case a15 => k_is)
    (case l15 => k_is)
    (case c15 => k_is)
    (case k15 => k_is)
    (case a16 => k_is)
    (case l16 => k_is)
    (case c16 => k_is)
    (case k16 => k_is)
    (case a17 => k_is)
    (case l17 => k_is)
    (case c17 => k_is)
    (case k17 => k_is)
    (case a18 => k_is)
    (case l18 => k_is)
    (case c18 => k_is)
    (case k18 => k_is)
    (case a19 => k_is)
    (case l19 => k_is)
    (case c19 => k_is)
    (case k19 => k_is)
    (case z_abs => k_is)
    (case z_all => k_is)
    (case z_bool => k_is)
    (case z_dict => k_is)
    (case z_int => k_is)
    (case z_isinstance => k_is)
    (case z_len => k_is)
    (case z_list => k_is)
    (case z_range => k_is)
    (case z_str => k_is)
    (case z_tuple => k_is)
    (case z_zip => k_is)
    (case q_MOST_BY => k_is)
    (case q_MOST_LONG => k_is)

